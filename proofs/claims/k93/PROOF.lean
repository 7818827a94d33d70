import PyProof.Rows.All
import Wide.All
import OpenK.AllK
import Wide.FinOn
import HandS.ForMost
import HandS.ForExc
import HandS.ExcCtx
import HandS.ExcInit
import HandS.HotCalls
import HandS.Defaults
import HandS.Wide
import HandS.TupAny
import HandS.TupMul
import HandS.Gcd
import KE.KTupSum
import KE.KMathGC
import HandS.Walk
import HandS.CallSlots
import HandS.IsInst
import KE.DataCmp
import KE.SortData
import KE.GoesMore
import KE.GoesEnum
import HandS.ExcIs
import HandS.ExcField
import HandS.Head0
import HandS.Head1
import HandS.Head2
import HandS.HeadEnd
import HandS.HeadHook1
import HandS.HeadHook2
import HandS.HeadHook3
import HandS.HeadHook4
import KE.KStateDown
import HandS.Head3
import PySem.Challenge.RW_unmovedforms_k93_monomials_in_order
set_option Elab.async false
set_option linter.all false
set_option maxRecDepth 100000
set_option maxHeartbeats 2000000
/-! PL1: plain data, how it lies in the abstract heap, the state of a def over plain data, and what changes it. -/
namespace U
open PySem PySem.Spec PyProof.Rows L2
/-- plain data: own classes by their numbers -/
inductive D where
  | non
  | bl (b : Bool)
  | int (i : Int)
  | str (x : Str)
  | tup (ds : List D)
  | lst (ds : List D)
  | scr (ds : List D)
  | dct (kvs : List (D × D))
  | ins (c : Nat) (fs : List (Str × D))
  | exc (c : Nat) (fs : List (Str × D))
  | cls (c : Nat)
/-- where the classes stand; the exception that is handled (address, class, own dict, fields) -/
structure RC (K : PySem.W.Frag) where
  cm : Nat → Addr
  hx : Option (Addr × Nat × Option Addr × List (Str × D))
mutual
inductive Rep {K : PySem.W.Frag} (rc : RC K) (G : Hp) : V → D → Prop
  | non : Rep rc G .non .non
  | bl (b : Bool) : Rep rc G (.bl b) (.bl b)
  | int (i : Int) : Rep rc G (.int i) (.int i)
  | str (x : Str) : Rep rc G (.str x) (.str x)
  | tup {a : Addr} {xs : List V} {ds : List D} : SqT K G a xs → Reps rc G xs ds → Rep rc G (.ref a) (.tup ds)
  | lst {a : Addr} {xs : List V} {ds : List D} : G a = some (.lst xs) → Reps rc G xs ds → Rep rc G (.ref a) (.lst ds)
  | scr {a : Addr} {xs : List V} {ds : List D} : SqL K G a xs → Reps rc G xs ds → Rep rc G (.ref a) (.scr ds)
  | ins {a dx : Addr} {c : Nat} {fs : List (Str × V)} {ds : List (Str × D)} : G a = some (.ins (rc.cm c) dx fs) → RepF rc G fs ds → Rep rc G (.ref a) (.ins c ds)
  | exc {a : Addr} {c : Nat} {d : Option Addr} {fs : List (Str × D)} : rc.hx = some (a, c, d, fs) → Rep rc G (.ref a) (.exc c fs)
  | cls {c : Nat} : Rep rc G (.ref (rc.cm c)) (.cls c)
inductive Reps {K : PySem.W.Frag} (rc : RC K) (G : Hp) : List V → List D → Prop
  | nil : Reps rc G [] []
  | cons {v : V} {vs : List V} {d : D} {ds : List D} : Rep rc G v d → Reps rc G vs ds → Reps rc G (v :: vs) (d :: ds)
inductive RepF {K : PySem.W.Frag} (rc : RC K) (G : Hp) : List (Str × V) → List (Str × D) → Prop
  | nil : RepF rc G [] []
  | cons {f : Str} {v : V} {vs : List (Str × V)} {d : D} {ds : List (Str × D)} : Rep rc G v d → RepF rc G vs ds → RepF rc G ((f, v) :: vs) ((f, d) :: ds)
end
theorem Same.seqT {K : PySem.W.Frag} {H H' : Hp} {a : Addr} {xs : List V} (e : Same H H') (h : SqT K H a xs) : SqT K H' a xs := by
  rcases h with (h | ⟨o, h⟩) | h
  · exact .inl (.inl (e _ _ h))
  · exact .inl (.inr ⟨o, e _ _ h⟩)
  · exact .inr h
mutual
theorem Rep.mono {K : PySem.W.Frag} {rc : RC K} {G G' : Hp} (s : Same G G') {v : V} {d : D} : Rep rc G v d → Rep rc G' v d
  | .non => .non
  | .bl b => .bl b
  | .int i => .int i
  | .str x => .str x
  | .tup h r => .tup (Same.seqT s h) (Reps.mono s r)
  | .lst h r => .lst (s _ _ h) (Reps.mono s r)
  | .scr h r => .scr (L2.Same.seq s h) (Reps.mono s r)
  | .ins h r => .ins (s _ _ h) (RepF.mono s r)
  | .exc h => .exc h
  | .cls => .cls
theorem Reps.mono {K : PySem.W.Frag} {rc : RC K} {G G' : Hp} (s : Same G G') {v : List V} {d : List D} : Reps rc G v d → Reps rc G' v d
  | .nil => .nil
  | .cons h r => .cons (Rep.mono s h) (Reps.mono s r)
theorem RepF.mono {K : PySem.W.Frag} {rc : RC K} {G G' : Hp} (s : Same G G') {v : List (Str × V)} {d : List (Str × D)} : RepF rc G v d → RepF rc G' v d
  | .nil => .nil
  | .cons h r => .cons (Rep.mono s h) (RepF.mono s r)
end
theorem Reps.length {K : PySem.W.Frag} {rc : RC K} {G : Hp} : ∀ {vs : List V} {ds : List D}, Reps rc G vs ds → vs.length = ds.length
  | _, _, .nil => rfl
  | _, _, .cons _ r => congrArg (· + 1) r.length
theorem Reps.get {K : PySem.W.Frag} {rc : RC K} {G : Hp} : ∀ {vs : List V} {ds : List D} {i : Nat} {v : V}, Reps rc G vs ds → vs[i]? = some v → ∃ d, ds[i]? = some d ∧ Rep rc G v d
  | _, _, _, _, .nil, e => by simp at e
  | _, _, 0, _, .cons h _, e => by simp at e; subst e; exact ⟨_, rfl, h⟩
  | _, _, i + 1, _, .cons _ r, e => by simpa using Reps.get (i := i) r (by simpa using e)
theorem Reps.getD {K : PySem.W.Frag} {rc : RC K} {G : Hp} : ∀ {vs : List V} {ds : List D} {i : Nat} {d : D}, Reps rc G vs ds → ds[i]? = some d → ∃ v, vs[i]? = some v ∧ Rep rc G v d
  | _, _, _, _, .nil, e => by simp at e
  | _, _, 0, _, .cons h _, e => by simp at e; subst e; exact ⟨_, rfl, h⟩
  | _, _, i + 1, _, .cons _ r, e => by simpa using Reps.getD (i := i) r (by simpa using e)
theorem Reps.append {K : PySem.W.Frag} {rc : RC K} {G : Hp} : ∀ {vs ws : List V} {ds es : List D}, Reps rc G vs ds → Reps rc G ws es → Reps rc G (vs ++ ws) (ds ++ es)
  | _, _, _, _, .nil, s => s
  | _, _, _, _, .cons h r, s => .cons h (Reps.append r s)
theorem Reps.one {K : PySem.W.Frag} {rc : RC K} {G : Hp} {v : V} {d : D} (h : Rep rc G v d) : Reps rc G [v] [d] := .cons h .nil
theorem Reps.set {K : PySem.W.Frag} {rc : RC K} {G : Hp} {v : V} {d : D} (h : Rep rc G v d) : ∀ {vs : List V} {ds : List D} (i : Nat), Reps rc G vs ds → Reps rc G (vs.set i v) (ds.set i d)
  | _, _, _, .nil => .nil
  | _, _, 0, .cons _ r => .cons h r
  | _, _, i + 1, .cons q r => .cons q (Reps.set h i r)
theorem Reps.take {K : PySem.W.Frag} {rc : RC K} {G : Hp} : ∀ {vs : List V} {ds : List D} (n : Nat), Reps rc G vs ds → Reps rc G (vs.take n) (ds.take n)
  | _, _, 0, _ => .nil
  | _, _, _ + 1, .nil => .nil
  | _, _, n + 1, .cons h r => .cons h (Reps.take n r)
theorem Reps.drop {K : PySem.W.Frag} {rc : RC K} {G : Hp} : ∀ {vs : List V} {ds : List D} (n : Nat), Reps rc G vs ds → Reps rc G (vs.drop n) (ds.drop n)
  | _, _, 0, r => r
  | _, _, _ + 1, .nil => .nil
  | _, _, n + 1, .cons _ r => Reps.drop n r
theorem RepF.lookup {K : PySem.W.Frag} {rc : RC K} {G : Hp} {f : Str} : ∀ {vs : List (Str × V)} {ds : List (Str × D)} {d : D}, RepF rc G vs ds → ds.lookup f = some d → ∃ v, vs.lookup f = some v ∧ Rep rc G v d
  | _, _, _, .nil, e => by simp at e
  | (g, v) :: vs, (_, d') :: ds, d, .cons h r, e => by
    rw [List.lookup_cons] at e ⊢
    cases q : f == g with
    | true => rw [q] at e; simp at e; subst e; exact ⟨_, rfl, h⟩
    | false => rw [q] at e; exact RepF.lookup r e
theorem RepF.lookupN {K : PySem.W.Frag} {rc : RC K} {G : Hp} {f : Str} : ∀ {vs : List (Str × V)} {ds : List (Str × D)}, RepF rc G vs ds → ds.lookup f = none → vs.lookup f = none
  | _, _, .nil, _ => rfl
  | (g, v) :: vs, (_, d') :: ds, .cons h r, e => by
    rw [List.lookup_cons] at e ⊢
    cases q : f == g with
    | true => rw [q] at e; simp at e
    | false => rw [q] at e; exact RepF.lookupN r e
/-- what stands at an address that may still change -/
def CellRep {K : PySem.W.Frag} (rc : RC K) (G H : Hp) (p : Addr) : D → Prop
  | .lst ds => ∃ xs, H p = some (.lst xs) ∧ Reps rc G xs ds
  | .ins c fs => ∃ dx fvs, H p = some (.ins (rc.cm c) dx fvs) ∧ RepF rc G fvs fs
  | _ => False
theorem CellRep.ex {K : PySem.W.Frag} {rc : RC K} {G H : Hp} {p : Addr} {d : D} (h : CellRep rc G H p d) : ∃ o, H p = some o ∧ (∀ fs, o ≠ .xd fs) := by
  cases d with
  | lst ds => obtain ⟨xs, e, _⟩ := h; exact ⟨_, e, fun _ z => by cases z⟩
  | ins c fs => obtain ⟨dx, fvs, e, _⟩ := h; exact ⟨_, e, fun _ z => by cases z⟩
  | _ => exact h.elim
/-- the same object, more plain data about -/
theorem CellRep.to {K : PySem.W.Frag} {rc : RC K} {G G' H H' : Hp} {p : Addr} {d : D} (s : Same G G') (e : H' p = H p) (h : CellRep rc G H p d) : CellRep rc G' H' p d := by
  cases d with
  | lst ds => obtain ⟨xs, q, r⟩ := h; exact ⟨xs, e.trans q, r.mono s⟩
  | ins c fs => obtain ⟨dx, fvs, q, r⟩ := h; exact ⟨dx, fvs, e.trans q, r.mono s⟩
  | _ => exact h.elim
/-- it is let stand for ever -/
theorem CellRep.rep {K : PySem.W.Frag} {rc : RC K} {G H : Hp} {p : Addr} {d : D} {o : HO} (n : G p = none) (h : CellRep rc G H p d) (e : H p = some o) : Rep rc (upd G p o) (.ref p) d := by
  have s : Same G (upd G p o) := fun b u q => by rw [upd_ne (ne_of_none q n)]; exact q
  cases d with
  | lst ds =>
    obtain ⟨xs, q, r⟩ := h
    rw [q] at e; cases e
    exact .lst upd_same (r.mono s)
  | ins c fs =>
    obtain ⟨dx, fvs, q, r⟩ := h
    rw [q] at e; cases e
    exact .ins upd_same (r.mono s)
  | _ => exact h.elim
/-- a name's slot: nothing known; plain data; an object of the def's own that may still change; an argument that is lent -/
inductive Slot where
  | un
  | pure (d : D)
  | cell (d : D)
  | io (k : Nat) (d : D)
  | fr (d : D)
abbrev DSt := List Slot
def Slot.isIo : Slot → Bool
  | .io _ _ => true
  | _ => false
def Slot.isCell : Slot → Bool
  | .cell _ => true
  | .io _ _ => true
  | _ => false
/-- the entry: what is plain, all that stands, what is lent; objects of no slot that are kept as they are -/
structure En where
  G0 : Hp
  H0 : Hp
  io : List Addr
  kept : Hp
/-- d's list (d itself, or the second of a pair) is newer than H0 -/
def Nw {K : PySem.W.Frag} (rc : RC K) (G H0 : Hp) (v : V) (d : D) : Prop :=
  (∀ d0 ds, d = .tup [d0, .lst ds] → ∃ t v0 p xs, v = .ref t ∧ SqT K G t [v0, .ref p] ∧ Rep rc G v0 d0 ∧ G p = some (.lst xs) ∧ Reps rc G xs ds ∧ H0 p = none) ∧
    ∀ ds, d = .lst ds → ∃ p xs, v = .ref p ∧ G p = some (.lst xs) ∧ Reps rc G xs ds ∧ H0 p = none
theorem Nw.mono {K : PySem.W.Frag} {rc : RC K} {G G' H0 : Hp} {v : V} {d : D} (s : Same G G') (h : Nw rc G H0 v d) : Nw rc G' H0 v d := ⟨fun d0 ds e => by
  obtain ⟨t, v0, p, xs, h1, h2, h3, h4, h5, h6⟩ := h.1 d0 ds e
  exact ⟨t, v0, p, xs, h1, Same.seqT s h2, h3.mono s, s _ _ h4, h5.mono s, h6⟩, fun ds e => by
  obtain ⟨p, xs, h1, h4, h5, h6⟩ := h.2 ds e
  exact ⟨p, xs, h1, s _ _ h4, h5.mono s, h6⟩⟩
def SlotR {K : PySem.W.Frag} (rc : RC K) (en : En) (G H : Hp) (o : Option V) : Slot → Prop
  | .un => True
  | .pure d => ∃ v, o = some v ∧ Rep rc G v d
  | .cell d => ∃ p, o = some (.ref p) ∧ G p = none ∧ en.H0 p = none ∧ CellRep rc G H p d
  | .io k d => ∃ p, o = some (.ref p) ∧ en.io[k]? = some p ∧ CellRep rc G H p d
  | .fr d => ∃ v, o = some v ∧ Rep rc G v d ∧ Nw rc G en.H0 v d
/-- the address of no slot that may change -/
def Off (σ : L2.St) (st : DSt) (p : Addr) : Prop := ∀ (i : Nat) (s : Slot), σ[i]? = some (some (.ref p)) → st[i]? = some s → s.isCell = false
structure SR {K : PySem.W.Frag} (rc : RC K) (en : En) (G H : Hp) (σ : L2.St) (st : DSt) : Prop where
  gh : Same G H
  g0 : Same en.G0 G
  h0 : ∀ a o, a ∉ en.io → en.H0 a = some o → H a = some o
  fr : ∀ a, en.H0 a ≠ none → en.G0 a = none → G a = none
  ioO : ∀ p ∈ en.io, en.H0 p ≠ none ∧ en.G0 p = none
  ioN : en.io.Nodup
  ioH : ∀ p ∈ en.io, H p ≠ none
  hx : ∀ a c d fs, rc.hx = some (a, c, d, fs) → (fs = [] ∧ d = none) ∨ ∃ dd fvs, d = some dd ∧ H dd = some (.xd fvs) ∧ RepF rc G fvs fs
  len : σ.length = st.length
  sl : ∀ (i : Nat) (o : Option V) (s : Slot), σ[i]? = some o → st[i]? = some s → SlotR rc en G H o s
  kp : ∀ a o, en.kept a = some o → H a = some o ∧ G a = none ∧ Off σ st a
  sep : ∀ (i j : Nat) (p : Addr) (a b : Slot), i ≠ j → σ[i]? = some (some (.ref p)) → st[i]? = some a → a.isCell = true → σ[j]? = some (some (.ref p)) → st[j]? = some b → b.isCell = true → False
section
variable {K : PySem.W.Frag} {rc : RC K} {en : En} {G H G' H' : Hp} {σ : L2.St} {st : DSt}
theorem SR.ioG (R : SR rc en G H σ st) {p : Addr} (h : p ∈ en.io) : G p = none := R.fr p (R.ioO p h).1 (R.ioO p h).2
theorem SR.live (R : SR rc en G H σ st) {a : Addr} (h : en.H0 a ≠ none) : H a ≠ none := by
  by_cases hi : a ∈ en.io
  · exact R.ioH a hi
  · cases q : en.H0 a with
    | none => exact absurd q h
    | some o =>
      intro z
      rw [R.h0 a o hi q] at z
      cases z
theorem SR.slot (R : SR rc en G H σ st) {i : Nat} {s : Slot} (h : st[i]? = some s) : ∃ o, σ[i]? = some o ∧ SlotR rc en G H o s := by
  have l : i < σ.length := by rw [R.len]; exact (List.getElem?_eq_some_iff.mp h).1
  exact ⟨σ[i], List.getElem?_eq_getElem l, R.sl i _ s (List.getElem?_eq_getElem l) h⟩
theorem SR.pure (R : SR rc en G H σ st) {i : Nat} {d : D} (h : st[i]? = some (.pure d)) : ∃ v, σ[i]? = some (some v) ∧ Rep rc G v d := by
  obtain ⟨o, e, v, rfl, r⟩ := R.slot h
  exact ⟨v, e, r⟩
theorem SR.frd (R : SR rc en G H σ st) {i : Nat} {d : D} (h : st[i]? = some (.fr d)) : ∃ v, σ[i]? = some (some v) ∧ Rep rc G v d ∧ Nw rc G en.H0 v d := by
  obtain ⟨o, e, v, rfl, r⟩ := R.slot h
  exact ⟨v, e, r⟩
theorem SR.cell (R : SR rc en G H σ st) {i : Nat} {d : D} (h : st[i]? = some (.cell d)) : ∃ p, σ[i]? = some (some (.ref p)) ∧ G p = none ∧ en.H0 p = none ∧ CellRep rc G H p d := by
  obtain ⟨o, e, p, rfl, r⟩ := R.slot h
  exact ⟨p, e, r⟩
theorem SR.io (R : SR rc en G H σ st) {i k : Nat} {d : D} (h : st[i]? = some (.io k d)) : ∃ p, σ[i]? = some (some (.ref p)) ∧ en.io[k]? = some p ∧ G p = none ∧ CellRep rc G H p d := by
  obtain ⟨o, e, p, rfl, q, r⟩ := R.slot h
  exact ⟨p, e, q, R.ioG (List.mem_of_getElem? q), r⟩
/-- a slot's object that may change is not plain -/
theorem SR.ownG (R : SR rc en G H σ st) {i : Nat} {s : Slot} {p : Addr} (e : σ[i]? = some (some (.ref p))) (h : st[i]? = some s) (c : s.isCell = true) : G p = none ∧ ∃ o, H p = some o ∧ ∀ fs, o ≠ .xd fs := by
  cases s with
  | un => cases c
  | pure d => cases c
  | fr d => cases c
  | cell d =>
    obtain ⟨q, e', n, _, r⟩ := R.cell h
    rw [e] at e'; cases e'
    exact ⟨n, r.ex⟩
  | io k d =>
    obtain ⟨q, e', _, n, r⟩ := R.io h
    rw [e] at e'; cases e'
    exact ⟨n, r.ex⟩
theorem SR.off_of_G (R : SR rc en G H σ st) {p : Addr} {o : HO} (h : G p = some o) : Off σ st p := fun i s e q => by
  cases c : s.isCell with
  | false => rfl
  | true =>
    have := (R.ownG e q c).1
    rw [h] at this; cases this
theorem SR.off_of_none (R : SR rc en G H σ st) {p : Addr} (h : H p = none) : Off σ st p := fun i s e q => by
  cases c : s.isCell with
  | false => rfl
  | true =>
    obtain ⟨_, o, z, _⟩ := R.ownG e q c
    rw [h] at z; cases z
/-- more stands; of what stood nothing changed -/
structure Grow (G H G' H' : Hp) : Prop where
  g : Same G G'
  gh : Same G' H'
  h : Same H H'
  fr : ∀ a, H a ≠ none → G a = none → G' a = none
theorem Grow.refl (gh : Same G H) : Grow G H G H := ⟨L2.Same.refl _, gh, L2.Same.refl _, fun _ _ n => n⟩
theorem Grow.trans {G1 H1 G2 H2 : Hp} (a : Grow G H G1 H1) (b : Grow G1 H1 G2 H2) : Grow G H G2 H2 :=
  ⟨a.g.trans b.g, b.gh, a.h.trans b.h, fun x hx n => b.fr x (fun z => hx (a.h.free z)) (a.fr x hx n)⟩
/-- a new plain object -/
theorem Grow.new {p : Addr} {o : HO} (gh : Same G H) (n : H p = none) : Grow G H (upd G p o) (upd H p o) := by
  have g : G p = none := gh.free n
  refine ⟨fun b u e => by rw [upd_ne (ne_of_none e g)]; exact e, fun b u e => ?_, fun b u e => by rw [upd_ne (ne_of_none e n)]; exact e, fun b hb hn => ?_⟩
  · by_cases hp : b = p
    · subst hp; rw [upd_same] at e ⊢; exact e
    · rw [upd_ne hp] at e ⊢; exact gh _ _ e
  · rw [upd_ne (fun z => hb (by rw [z]; exact n))]; exact hn
/-- a new object that is not yet plain -/
theorem Grow.newH {p : Addr} {o : HO} (gh : Same G H) (n : H p = none) : Grow G H G (upd H p o) :=
  ⟨L2.Same.refl _, fun b u e => by rw [upd_ne (ne_of_none (gh _ _ e) n)]; exact gh _ _ e, fun b u e => by rw [upd_ne (ne_of_none e n)]; exact e, fun _ _ z => z⟩
theorem SR.grow (R : SR rc en G H σ st) (g : Grow G H G' H') : SR rc en G' H' σ st where
  gh := g.gh
  g0 := R.g0.trans g.g
  h0 := fun a o n e => g.h _ _ (R.h0 a o n e)
  fr := fun a h n => g.fr a (R.live h) (R.fr a h n)
  ioH := fun p h => by
    intro z
    exact R.ioH p h (g.h.free z)
  ioO := R.ioO
  ioN := R.ioN
  hx := fun a c d fs e => by
    rcases R.hx a c d fs e with h | ⟨dd, fvs, h1, h2, h3⟩
    · exact .inl h
    · exact .inr ⟨dd, fvs, h1, g.h _ _ h2, h3.mono g.g⟩
  len := R.len
  sl := fun i o s e q => by
    have z := R.sl i o s e q
    cases s with
    | un => trivial
    | pure d => obtain ⟨v, h1, h2⟩ := z; exact ⟨v, h1, h2.mono g.g⟩
    | fr d => obtain ⟨v, h1, h2, h3⟩ := z; exact ⟨v, h1, h2.mono g.g, h3.mono g.g⟩
    | cell d =>
      obtain ⟨p, h1, h2, h3, h4⟩ := z
      obtain ⟨ob, ho, _⟩ := h4.ex
      exact ⟨p, h1, g.fr p (by rw [ho]; simp) h2, h3, h4.to g.g ((g.h _ _ ho).trans ho.symm)⟩
    | io k d =>
      obtain ⟨p, h1, h2, h4⟩ := z
      obtain ⟨ob, ho, _⟩ := h4.ex
      exact ⟨p, h1, h2, h4.to g.g ((g.h _ _ ho).trans ho.symm)⟩
  kp := fun a o e => by
    obtain ⟨h1, h2, h3⟩ := R.kp a o e
    exact ⟨g.h _ _ h1, g.fr a (by rw [h1]; simp) h2, h3⟩
  sep := R.sep
theorem get_set_cases {α : Type} {l : List α} {i j : Nat} {a b : α} (h : (l.set i a)[j]? = some b) : (i = j ∧ a = b) ∨ (i ≠ j ∧ l[j]? = some b) := by
  by_cases e : i = j
  · subst e
    by_cases hl : i < l.length
    · rw [List.getElem?_set_self hl] at h
      exact .inl ⟨rfl, Option.some.inj h⟩
    · rw [List.getElem?_eq_none (by simpa using hl)] at h; cases h
  · rw [List.getElem?_set_ne e] at h
    exact .inr ⟨e, h⟩
theorem Off.set {p : Addr} {i : Nat} {o : Option V} {s : Slot} (f : Off σ st p) (h : s.isCell = true → o ≠ some (.ref p)) : Off (σ.set i o) (st.set i s) p := fun j s' e q => by
  cases c : s'.isCell with
  | false => rfl
  | true =>
    rcases get_set_cases q with ⟨rfl, rfl⟩ | ⟨n1, q1'⟩
    · rcases get_set_cases e with ⟨_, h2⟩ | ⟨n, _⟩
      · exact absurd h2 (h c)
      · exact absurd rfl n
    · rcases get_set_cases e with ⟨h2, _⟩ | ⟨_, e1'⟩
      · exact absurd h2 n1
      · have z := f j s' e1' q1'
        rw [c] at z; cases z
theorem SR.setPure (R : SR rc en G H σ st) {v : V} {d : D} (i : Nat) (r : Rep rc G v d) : SR rc en G H (σ.set i (some v)) (st.set i (.pure d)) where
  gh := R.gh
  g0 := R.g0
  h0 := R.h0
  fr := R.fr
  ioO := R.ioO
  ioN := R.ioN
  ioH := R.ioH
  hx := R.hx
  len := by rw [List.length_set, List.length_set]; exact R.len
  sl := fun j o s e q => by
    rcases get_set_cases e with ⟨rfl, rfl⟩ | ⟨ne, e'⟩ <;> rcases get_set_cases q with ⟨eq, rfl⟩ | ⟨ne', q'⟩
    · exact ⟨v, rfl, r⟩
    · exact absurd rfl ne'
    · exact absurd eq ne
    · exact R.sl j o s e' q'
  kp := fun a o e => ⟨(R.kp a o e).1, (R.kp a o e).2.1, (R.kp a o e).2.2.set fun c => by cases c⟩
  sep := fun a b p sa sb ne e1 q1 c1 e2 q2 c2 => by
    rcases get_set_cases q1 with ⟨_, rfl⟩ | ⟨n1, q1'⟩
    · cases c1
    rcases get_set_cases q2 with ⟨_, rfl⟩ | ⟨n2, q2'⟩
    · cases c2
    rcases get_set_cases e1 with ⟨h, _⟩ | ⟨_, e1'⟩
    · exact absurd h n1
    rcases get_set_cases e2 with ⟨h, _⟩ | ⟨_, e2'⟩
    · exact absurd h n2
    exact R.sep a b p sa sb ne e1' q1' c1 e2' q2' c2
theorem SR.setUn (R : SR rc en G H σ st) (o : Option V) (i : Nat) : SR rc en G H (σ.set i o) (st.set i .un) where
  gh := R.gh
  g0 := R.g0
  h0 := R.h0
  fr := R.fr
  ioO := R.ioO
  ioN := R.ioN
  ioH := R.ioH
  hx := R.hx
  len := by rw [List.length_set, List.length_set]; exact R.len
  sl := fun j o s e q => by
    rcases get_set_cases q with ⟨rfl, rfl⟩ | ⟨ne', q'⟩
    · trivial
    · rcases get_set_cases e with ⟨h, _⟩ | ⟨_, e'⟩
      · exact absurd h ne'
      · exact R.sl j o s e' q'
  kp := fun a o' e => ⟨(R.kp a o' e).1, (R.kp a o' e).2.1, (R.kp a o' e).2.2.set fun c => by cases c⟩
  sep := fun a b p sa sb ne e1 q1 c1 e2 q2 c2 => by
    rcases get_set_cases q1 with ⟨_, rfl⟩ | ⟨n1, q1'⟩
    · cases c1
    rcases get_set_cases q2 with ⟨_, rfl⟩ | ⟨n2, q2'⟩
    · cases c2
    rcases get_set_cases e1 with ⟨h, _⟩ | ⟨_, e1'⟩
    · exact absurd h n1
    rcases get_set_cases e2 with ⟨h, _⟩ | ⟨_, e2'⟩
    · exact absurd h n2
    exact R.sep a b p sa sb ne e1' q1' c1 e2' q2' c2
/-- what is new, and the def's own -/
structure Fresh (en : En) (G : Hp) (σ : L2.St) (st : DSt) (p : Addr) : Prop where
  g : G p = none
  h0 : en.H0 p = none
  off : Off σ st p
  nk : en.kept p = none
theorem SR.setCell (R : SR rc en G H σ st) {p : Addr} {d : D} (i : Nat) (f : Fresh en G σ st p) (r : CellRep rc G H p d) : SR rc en G H (σ.set i (some (.ref p))) (st.set i (.cell d)) where
  gh := R.gh
  g0 := R.g0
  h0 := R.h0
  fr := R.fr
  ioO := R.ioO
  ioN := R.ioN
  ioH := R.ioH
  hx := R.hx
  len := by rw [List.length_set, List.length_set]; exact R.len
  sl := fun j o s e q => by
    rcases get_set_cases q with ⟨rfl, rfl⟩ | ⟨ne', q'⟩
    · rcases get_set_cases e with ⟨_, rfl⟩ | ⟨ne, _⟩
      · exact ⟨p, rfl, f.g, f.h0, r⟩
      · exact absurd rfl ne
    · rcases get_set_cases e with ⟨h, _⟩ | ⟨_, e'⟩
      · exact absurd h ne'
      · exact R.sl j o s e' q'
  kp := fun a o' e => ⟨(R.kp a o' e).1, (R.kp a o' e).2.1, (R.kp a o' e).2.2.set fun _ z => by cases z; rw [f.nk] at e; cases e⟩
  sep := fun a b q sa sb ne e1 q1 c1 e2 q2 c2 => by
    rcases get_set_cases q1 with ⟨rfl, rfl⟩ | ⟨n1, q1'⟩ <;> rcases get_set_cases q2 with ⟨rfl, rfl⟩ | ⟨n2, q2'⟩
    · exact ne rfl
    · rcases get_set_cases e1 with ⟨_, h⟩ | ⟨h, _⟩
      · cases h
        rcases get_set_cases e2 with ⟨h, _⟩ | ⟨_, e2'⟩
        · exact n2 h
        · have z := f.off b sb e2' q2'
          rw [z] at c2; cases c2
      · exact h rfl
    · rcases get_set_cases e2 with ⟨_, h⟩ | ⟨h, _⟩
      · cases h
        rcases get_set_cases e1 with ⟨h, _⟩ | ⟨_, e1'⟩
        · exact n1 h
        · have z := f.off a sa e1' q1'
          rw [z] at c1; cases c1
      · exact h rfl
    · rcases get_set_cases e1 with ⟨h, _⟩ | ⟨_, e1'⟩
      · exact n1 h
      rcases get_set_cases e2 with ⟨h, _⟩ | ⟨_, e2'⟩
      · exact n2 h
      exact R.sep a b q sa sb ne e1' q1' c1 e2' q2' c2
/-- the same kind of slot, other content -/
def Slot.put : Slot → D → Slot
  | .cell _, d => .cell d
  | .io k _, d => .io k d
  | s, _ => s
/-- the content of an object that may change -/
def Slot.got : Slot → Option D
  | .cell d => some d
  | .io _ d => some d
  | _ => none
theorem Slot.put_isCell (s : Slot) (d : D) : (s.put d).isCell = s.isCell := by cases s <;> rfl
theorem SR.got (R : SR rc en G H σ st) {i : Nat} {s : Slot} {d : D} (h : st[i]? = some s) (c : s.got = some d) : ∃ p, σ[i]? = some (some (.ref p)) ∧ G p = none ∧ CellRep rc G H p d := by
  cases s with
  | un => cases c
  | pure d => cases c
  | fr d => cases c
  | cell d =>
    cases c
    obtain ⟨q, e', n, _, r⟩ := R.cell h
    exact ⟨q, e', n, r⟩
  | io k d =>
    cases c
    obtain ⟨q, e', _, n, r⟩ := R.io h
    exact ⟨q, e', n, r⟩
/-- an object that may change is changed -/
theorem SR.write (R : SR rc en G H σ st) {i : Nat} {s : Slot} {p : Addr} {d : D} {o : HO} (h : st[i]? = some s) (c : s.isCell = true) (e : σ[i]? = some (some (.ref p))) (r : CellRep rc G (upd H p o) p d) : SR rc en G (upd H p o) σ (st.set i (s.put d)) := by
  obtain ⟨gp, op, hp, nx⟩ := R.ownG e h c
  have hi : i < st.length := (List.getElem?_eq_some_iff.mp h).1
  refine ⟨fun b u q => by rw [upd_ne (ne_of_none q gp)]; exact R.gh _ _ q, R.g0, fun a u n q => ?_, R.fr, R.ioO, R.ioN, fun a ha => ?_, fun a c' d' fs q => ?_, by rw [List.length_set]; exact R.len, fun j ob sj ej qj => ?_, fun a u q => ?_, fun a b q sa sb ne e1 q1 c1 e2 q2 c2 => ?_⟩
  · have z := R.h0 a u n q
    by_cases hap : a = p
    · subst hap
      exfalso
      cases s with
      | un => cases c
      | pure _ => cases c
      | fr _ => cases c
      | cell d0 =>
        obtain ⟨q', e', _, h0, _⟩ := R.cell h
        rw [e] at e'; cases e'
        rw [q] at h0; cases h0
      | io k d0 =>
        obtain ⟨q', e', hk, _, _⟩ := R.io h
        rw [e] at e'; cases e'
        exact n (List.mem_of_getElem? hk)
    · rw [upd_ne hap]; exact z
  · by_cases hap : a = p
    · subst hap; rw [upd_same]; simp
    · rw [upd_ne hap]; exact R.ioH a ha
  · rcases R.hx a c' d' fs q with h1 | ⟨dd, fvs, h1, h2, h3⟩
    · exact .inl h1
    · refine .inr ⟨dd, fvs, h1, ?_, h3⟩
      rw [upd_ne (fun z => by rw [z, hp] at h2; exact nx fvs (Option.some.inj h2))]
      exact h2
  · by_cases hij : i = j
    · subst hij
      rw [List.getElem?_set_self hi] at qj
      cases qj
      rw [e] at ej; cases ej
      cases s with
      | un => cases c
      | pure _ => cases c
      | fr _ => cases c
      | cell d0 =>
        obtain ⟨q', e', h1, h0, _⟩ := R.cell h
        rw [e] at e'; cases e'
        exact ⟨p, rfl, h1, h0, r⟩
      | io k d0 =>
        obtain ⟨q', e', hk, _, _⟩ := R.io h
        rw [e] at e'; cases e'
        exact ⟨p, rfl, hk, r⟩
    · rw [List.getElem?_set_ne hij] at qj
      have z := R.sl j ob sj ej qj
      have other : ∀ q, ob = some (.ref q) → sj.isCell = true → q ≠ p := fun q hq hc hqp => by
        subst hqp; subst hq
        exact R.sep i j q s sj hij e h c ej qj hc
      cases sj with
      | un => trivial
      | pure dj => exact z
      | fr dj => exact z
      | cell dj =>
        obtain ⟨q, h1, h2, h3, h4⟩ := z
        exact ⟨q, h1, h2, h3, h4.to (L2.Same.refl _) (upd_ne (other q h1 rfl))⟩
      | io k dj =>
        obtain ⟨q, h1, h2, h4⟩ := z
        exact ⟨q, h1, h2, h4.to (L2.Same.refl _) (upd_ne (other q h1 rfl))⟩
  · obtain ⟨h1, h2, h3⟩ := R.kp a u q
    have nap : a ≠ p := fun z => by
      have := h3 i s (by rw [z]; exact e) h
      rw [c] at this; cases this
    refine ⟨by rw [upd_ne nap]; exact h1, h2, fun j sj ej qj => ?_⟩
    rcases get_set_cases qj with ⟨rfl, _⟩ | ⟨_, q'⟩
    · rw [e] at ej
      exact absurd (V.ref.inj (Option.some.inj (Option.some.inj ej))).symm nap
    · exact h3 j sj ej q'
  · have old : ∀ {x : Nat} {sx : Slot}, (st.set i (s.put d))[x]? = some sx → sx.isCell = true → ∃ sx', st[x]? = some sx' ∧ sx'.isCell = true := fun {x sx} hx hc => by
      rcases get_set_cases hx with ⟨rfl, rfl⟩ | ⟨_, hx'⟩
      · exact ⟨s, h, c⟩
      · exact ⟨sx, hx', hc⟩
    obtain ⟨sa', qa, ca⟩ := old q1 c1
    obtain ⟨sb', qb, cb⟩ := old q2 c2
    exact R.sep a b q sa' sb' ne e1 qa ca e2 qb cb
/-- an object of the def's own is let stand for ever -/
theorem SR.freeze (R : SR rc en G H σ st) {i : Nat} {d : D} (h : st[i]? = some (.cell d)) : ∃ p o, σ[i]? = some (some (.ref p)) ∧ H p = some o ∧ G p = none ∧ Rep rc (upd G p o) (.ref p) d ∧ Same G (upd G p o) ∧ SR rc en (upd G p o) H σ (st.set i (.pure d)) := by
  obtain ⟨p, e, gp, h0, r⟩ := R.cell h
  obtain ⟨o, hp, nx⟩ := r.ex
  have sG : Same G (upd G p o) := fun b u q => by rw [upd_ne (ne_of_none q gp)]; exact q
  have hi : i < st.length := (List.getElem?_eq_some_iff.mp h).1
  refine ⟨p, o, e, hp, gp, r.rep gp hp, sG, ⟨fun b u q => ?_, R.g0.trans sG, R.h0, fun a ha n => ?_, R.ioO, R.ioN, R.ioH, fun a c' d' fs q => ?_, by rw [List.length_set]; exact R.len, fun j ob sj ej qj => ?_, fun a u q => ?_, fun a b q sa sb ne e1 q1 c1 e2 q2 c2 => ?_⟩⟩
  · by_cases hb : b = p
    · subst hb; rw [upd_same] at q; rw [← q]; exact hp
    · rw [upd_ne hb] at q; exact R.gh _ _ q
  · rw [upd_ne (fun z => ha (by rw [z]; exact h0))]; exact R.fr a ha n
  · rcases R.hx a c' d' fs q with h1 | ⟨dd, fvs, h1, h2, h3⟩
    · exact .inl h1
    · exact .inr ⟨dd, fvs, h1, h2, h3.mono sG⟩
  · by_cases hij : i = j
    · subst hij
      rw [List.getElem?_set_self hi] at qj
      cases qj
      rw [e] at ej; cases ej
      exact ⟨_, rfl, r.rep gp hp⟩
    · rw [List.getElem?_set_ne hij] at qj
      have z := R.sl j ob sj ej qj
      cases sj with
      | un => trivial
      | pure dj => obtain ⟨v, h1, h2⟩ := z; exact ⟨v, h1, h2.mono sG⟩
      | fr dj => obtain ⟨v, h1, h2, h3⟩ := z; exact ⟨v, h1, h2.mono sG, h3.mono sG⟩
      | cell dj =>
        obtain ⟨q, h1, h2, h3, h4⟩ := z
        refine ⟨q, h1, ?_, h3, h4.to sG rfl⟩
        rw [upd_ne]
        · exact h2
        · intro hqp; subst hqp; subst h1
          exact R.sep i j q _ _ hij e h rfl ej qj rfl
      | io k dj =>
        obtain ⟨q, h1, h2, h4⟩ := z
        exact ⟨q, h1, h2, h4.to sG rfl⟩
  · obtain ⟨h1, h2, h3⟩ := R.kp a u q
    have nap : a ≠ p := fun z => by
      have := h3 i _ (by rw [z]; exact e) h
      cases this
    refine ⟨h1, by rw [upd_ne nap]; exact h2, fun j sj ej qj => ?_⟩
    rcases get_set_cases qj with ⟨rfl, rfl⟩ | ⟨_, q'⟩
    · rfl
    · exact h3 j sj ej q'
  · have old : ∀ {x : Nat} {sx : Slot}, (st.set i (.pure d))[x]? = some sx → sx.isCell = true → st[x]? = some sx := fun {x sx} hx hc => by
      rcases get_set_cases hx with ⟨rfl, rfl⟩ | ⟨_, hx'⟩
      · cases hc
      · exact hx'
    exact R.sep a b q sa sb ne e1 (old q1 c1) c1 e2 (old q2 c2) c2
/-- a new object of the def's own is let stand for ever -/
theorem SR.frozen (R : SR rc en G H σ st) {p : Addr} {o : HO} {d : D} (f : Fresh en G σ st p) (hp : H p = some o) (r : CellRep rc G H p d) : Rep rc (upd G p o) (.ref p) d ∧ Same G (upd G p o) ∧ SR rc en (upd G p o) H σ st := by
  have sG : Same G (upd G p o) := fun b u q => by rw [upd_ne (ne_of_none q f.g)]; exact q
  refine ⟨r.rep f.g hp, sG, ⟨fun b u q => ?_, R.g0.trans sG, R.h0, fun a ha n => ?_, R.ioO, R.ioN, R.ioH, fun a c' d' fs q => ?_, R.len, fun j ob sj ej qj => ?_, fun a u q => ?_, R.sep⟩⟩
  · by_cases hb : b = p
    · subst hb; rw [upd_same] at q; rw [← q]; exact hp
    · rw [upd_ne hb] at q; exact R.gh _ _ q
  · rw [upd_ne (fun z => ha (by rw [z]; exact f.h0))]; exact R.fr a ha n
  · rcases R.hx a c' d' fs q with h1 | ⟨dd, fvs, h1, h2, h3⟩
    · exact .inl h1
    · exact .inr ⟨dd, fvs, h1, h2, h3.mono sG⟩
  · have z := R.sl j ob sj ej qj
    cases sj with
    | un => trivial
    | pure dj => obtain ⟨v, h1, h2⟩ := z; exact ⟨v, h1, h2.mono sG⟩
    | fr dj => obtain ⟨v, h1, h2, h3⟩ := z; exact ⟨v, h1, h2.mono sG, h3.mono sG⟩
    | cell dj =>
      obtain ⟨q, h1, h2, h3, h4⟩ := z
      refine ⟨q, h1, ?_, h3, h4.to sG rfl⟩
      rw [upd_ne]
      · exact h2
      · intro hqp; subst hqp; subst h1
        have z := f.off j _ ej qj
        cases z
    | io k dj =>
      obtain ⟨q, h1, h2, h4⟩ := z
      exact ⟨q, h1, h2, h4.to sG rfl⟩
  · obtain ⟨h1, h2, h3⟩ := R.kp a u q
    exact ⟨h1, by rw [upd_ne (fun z => by rw [z, f.nk] at q; cases q)]; exact h2, h3⟩
theorem Fresh.new (R : SR rc en G H σ st) {p : Addr} (h : H p = none) : Fresh en G σ st p := by
  refine ⟨R.gh.free h, ?_, R.off_of_none h, ?_⟩
  · cases q : en.H0 p with
    | none => rfl
    | some o => exact absurd h (R.live (by rw [q]; simp))
  · cases q : en.kept p with
    | none => rfl
    | some o =>
      have := (R.kp p o q).1
      rw [h] at this; cases this
end
end U
set_option maxRecDepth 100000
set_option maxHeartbeats 2000000
/-! PL2: readings over plain data; rules for expressions. -/
namespace U
open PySem PySem.Spec PyProof.Rows L2
/-- an exception as plain data -/
structure XD where
  c : Nat
  fs : List (Str × D)
inductive DR (α : Type) where
  | ok (a : α) (st : DSt)
  | exc (x : XD) (st : DSt)
  | stuck
def DR.bind {α β : Type} (r : DR α) (k : α → DSt → DR β) : DR β := match r with
  | .ok a st => k a st
  | .exc x st => .exc x st
  | .stuck => .stuck
def DR.opt {α : Type} (o : Option α) (st : DSt) : DR α := match o with
  | some a => .ok a st
  | none => .stuck
def XRep {K : PySem.W.Frag} (rc : RC K) (G H : Hp) (cls : Value) (dd : Option Addr) (x : XD) : Prop :=
  cls = .ref (rc.cm x.c) ∧ ((x.fs = [] ∧ dd = none) ∨ ∃ d fvs, dd = some d ∧ H d = some (.xd fvs) ∧ RepF rc G fvs x.fs)
def Ends3 {K : PySem.W.Frag} {α : Type} (rc : RC K) (en : En) (W : WX) (σ : L2.St) (r : DR α) (G : Hp) (P : α → DSt → Hp → Hp → Prop) : Prop := match r with
  | .ok a st' => ∀ G' H', Same G G' → SR rc en G' H' σ st' → P a st' G' H'
  | .exc x st' => ∀ cls dd G' H', Same G G' → SR rc en G' H' σ st' → XRep rc G' H' cls dd x → W cls dd σ H'
  | .stuck => False
abbrev DE := DSt → DR D
abbrev DT := DSt → DR Bool
abbrev DA := DSt → DR (List D)
section
variable {K : PySem.W.Frag} (rc : RC K) (en : En) (W : WX)
/-- plain data -/
def tU (f : DE) : TE := fun σ H Q => ∃ G st, SR rc en G H σ st ∧ Ends3 rc en W σ (f st) G fun d _ G' H' => ∀ v, Rep rc G' v d → Q v H'
/-- a new object of the def's own -/
def tF (f : DE) : TE := fun σ H Q => ∃ G st, SR rc en G H σ st ∧ Ends3 rc en W σ (f st) G fun d st' G' H' => ∀ p, Fresh en G' σ st' p → CellRep rc G' H' p d → Q (.ref p) H'
def tD (f : DT) : TT := fun σ H Q => ∃ G st, SR rc en G H σ st ∧ Ends3 rc en W σ (f st) G fun b _ _ H' => Q b H'
def tL (f : DA) : TA := fun σ H Q => ∃ G st, SR rc en G H σ st ∧ Ends3 rc en W σ (f st) G fun ds _ G' H' => ∀ vs, Reps rc G' vs ds → Q vs H'
end
section
variable {K : PySem.W.Frag} {rc : RC K} {en : En} {W : WX} {σ : L2.St} {G : Hp}
theorem Ends3.imp {α : Type} {r : DR α} {P P' : α → DSt → Hp → Hp → Prop} (h : Ends3 rc en W σ r G P) (k : ∀ a st' G' H', Same G G' → SR rc en G' H' σ st' → P a st' G' H' → P' a st' G' H') : Ends3 rc en W σ r G P' := by
  cases r with
  | ok a st' => exact fun G' H' s R => k a st' G' H' s R (h G' H' s R)
  | exc x st' => exact h
  | stuck => exact h
theorem Ends3.up {α : Type} {G' : Hp} {r : DR α} {P : α → DSt → Hp → Hp → Prop} (s : Same G G') (h : Ends3 rc en W σ r G P) : Ends3 rc en W σ r G' P := by
  cases r with
  | ok a st' => exact fun G2 H2 s2 R => h G2 H2 (s.trans s2) R
  | exc x st' => exact fun c d G2 H2 s2 => h c d G2 H2 (s.trans s2)
  | stuck => exact h
theorem Ends3.bind {α β : Type} {r : DR α} {k : α → DSt → DR β} {P : β → DSt → Hp → Hp → Prop} (h : Ends3 rc en W σ (r.bind k) G P) : Ends3 rc en W σ r G fun a st' G' _ => Ends3 rc en W σ (k a st') G' P := by
  cases r with
  | ok a st' => exact fun G1 H1 s1 R1 => Ends3.up s1 h
  | exc x st' => exact h
  | stuck => exact h
theorem Ends3.opt {α : Type} {o : Option α} {st : DSt} {P : α → DSt → Hp → Hp → Prop} (h : Ends3 rc en W σ (DR.opt o st) G P) : ∃ a, o = some a ∧ ∀ G' H', Same G G' → SR rc en G' H' σ st → P a st G' H' := by
  cases o with
  | none => exact h.elim
  | some a => exact ⟨a, rfl, h⟩
end
section
variable {X : Cx} {rc : RC X.K} {en : En} {W : WX} {e a b c : Expr} {pos : Pos}
theorem _root_.L2.PE.imp {t t' : TE} (h : PE X e t) (k : ∀ σ H Q, t' σ H Q → t σ H Q) : PE X e t' := ⟨fun pins s σ H Q I q => h.run pins s σ H Q I (k σ H Q q)⟩
theorem _root_.L2.PT.imp {t t' : TT} (h : PT X e t) (k : ∀ σ H Q, t' σ H Q → t σ H Q) : PT X e t' := ⟨fun pins s σ H Q I q => h.run pins s σ H Q I (k σ H Q q)⟩
theorem _root_.L2.PA.imp {es : List Expr} {t t' : TA} (h : PA X es t) (k : ∀ σ H Q, t' σ H Q → t σ H Q) : PA X es t' := ⟨fun ps pins s σ H Q I q => h.run ps pins s σ H Q I (k σ H Q q)⟩
theorem _root_.L2.PS.imp {st : Stmt} {t t' : TS} (h : PS X st t) (k : ∀ D σ H, t' D σ H → t D σ H) : PS X st t' := ⟨fun pins s σ H D I q => h.run pins s σ H D I (k D σ H q)⟩
theorem _root_.L2.PSs.imp {st : List Stmt} {t t' : TS} (h : PSs X st t) (k : ∀ D σ H, t' D σ H → t D σ H) : PSs X st t' := ⟨fun pins s σ H D I q => h.run pins s σ H D I (k D σ H q)⟩
/-- what is new is plain -/
theorem pu_fresh {f : DE} (h : PE X e (tF rc en W f)) : PE X e (tU rc en W f) := h.imp fun σ H Q ⟨G, st, R, q⟩ => ⟨G, st, R, by
  cases r : f st with
  | ok d st' =>
    rw [r] at q
    intro G' H' s R' p fp cr
    obtain ⟨o, ho, _⟩ := cr.ex
    obtain ⟨rp, sG, R2⟩ := R'.frozen fp ho cr
    exact q _ _ (s.trans sG) R2 _ rp
  | exc x st' => rw [r] at q; exact q
  | stuck => rw [r] at q; exact q⟩
/-! ### names, constants -/
def dVar (i : Nat) : DE := fun st => match st[i]? with
  | some (.pure d) => .ok d st
  | some (.fr d) => .ok d st
  | some (.cell d) => .ok d (st.set i (.pure d))
  | _ => .stuck
theorem pu_var (i : Nat) {x : Str} (hN : X.N[i]? = some x := by rfl) (hv : Vis X.env.scope x := by first | exact Or.inl rfl | exact Or.inr (Or.inl rfl) | exact Or.inr (Or.inr rfl)) (hd : (x == ("__debug__" : Str)) = false := by decide)
    (hcd : (x == ("__classdict__" : Str)) = false := by decide) : PE X (.Name x pos) (tU rc en W (dVar i)) := (pe_var hN hv hd hcd).imp fun σ H Q ⟨G, st, R, q⟩ => by
  unfold dVar at q
  cases h : st[i]? with
  | none => rw [h] at q; exact q.elim
  | some s =>
    rw [h] at q
    cases s with
    | un => exact q.elim
    | pure d =>
      obtain ⟨v, hv, r⟩ := R.pure h
      exact ⟨v, hv, q G H (L2.Same.refl _) R v r⟩
    | cell d =>
      obtain ⟨p, o, hv, ho, gp, r, sG, R2⟩ := R.freeze h
      exact ⟨_, hv, q _ H sG R2 _ r⟩
    | io k d => exact q.elim
    | fr d =>
      obtain ⟨v, hv, r, _⟩ := R.frd h
      exact ⟨v, hv, q G H (L2.Same.refl _) R v r⟩
def dC (d : D) : DE := fun st => .ok d st
theorem tU_const {v : V} {d : D} (hr : ∀ G : Hp, Rep rc G v d) {σ : L2.St} {H : Hp} {Q : VK} (h : tU rc en W (dC d) σ H Q) : tC v σ H Q := by
  obtain ⟨G, st, R, q⟩ := h
  exact q G H (L2.Same.refl _) R v (hr G)
theorem pu_int {i j pos} : PE X (.Constant (.int i) j pos) (tU rc en W (dC (.int i))) := pe_int.imp fun _ _ _ h => tU_const (fun _ => .int i) h
theorem pu_bl {b j pos} : PE X (.Constant (.bool b) j pos) (tU rc en W (dC (.bl b))) := pe_bl.imp fun _ _ _ h => tU_const (fun _ => .bl b) h
theorem pu_non {j pos} : PE X (.Constant .none j pos) (tU rc en W (dC .non)) := pe_non.imp fun _ _ _ h => tU_const (fun _ => .non) h
theorem pu_str {x j pos} : PE X (.Constant (.str x) j pos) (tU rc en W (dC (.str x))) := pe_str.imp fun _ _ _ h => tU_const (fun _ => .str x) h
/-- a module's int -/
theorem pu_gint {x : Str} {i : Int} {pos : Pos} (hm : ∃ t, X.mg x = some (.int i t)) (hg : Gl X x := by rfl) (hd : (x == ("__debug__" : Str)) = false := by decide) : PE X (.Name x pos) (tU rc en W (dC (.int i))) := by
  obtain ⟨t, hm⟩ := hm
  exact (pe_glob hg hm (v := .int i) ⟨t, rfl⟩ hd).imp fun _ _ _ h => tU_const (fun _ => .int i) h
/-! ### operators -/
/-- f does on plain data what g tells -/
def OpD (X : Cx) (rc : RC X.K) (f : Value → Value → Sem Value) (g : D → D → Option D) : Prop :=
  ∃ r : R2, OpR X f r ∧ ∀ (G H : Hp) (v u : V) (d e x : D) (Q : VK), Same G H → Rep rc G v d → Rep rc G u e → g d e = some x → (∀ w G' H', Grow G H G' H' → Rep rc G' w x → Q w H') → r v u H Q
def dOp (g : D → D → Option D) (fa fb : DE) : DE := fun st => (fa st).bind fun d st1 => (fb st1).bind fun e st2 => .opt (g d e) st2
theorem Ends3.opD {σ : L2.St} {H : Hp} {Q : VK} {r : R2} {g : D → D → Option D} {fa fb : DE} (hr : ∀ (G H : Hp) (v u : V) (d e x : D) (Q : VK), Same G H → Rep rc G v d → Rep rc G u e → g d e = some x → (∀ w G' H', Grow G H G' H' → Rep rc G' w x → Q w H') → r v u H Q)
    (h : tU rc en W (dOp g fa fb) σ H Q) : tOp r (tU rc en W fa) (tU rc en W fb) σ H Q := by
  obtain ⟨G, st, R, h⟩ := h
  refine ⟨G, st, R, (Ends3.bind h).imp fun d st1 G1 H1 s1 R1 h1 v rv => ⟨G1, st1, R1, (Ends3.bind h1).imp fun e st2 G2 H2 s2 R2 h2 u ru => ?_⟩⟩
  obtain ⟨x, ex, k⟩ := Ends3.opt h2
  exact hr G2 H2 v u d e x Q R2.gh (rv.mono s2) ru ex fun w G' H' g' rw' => k G' H' g'.g (R2.grow g') w rw'
theorem pu_op {op : Operator} {g : D → D → Option D} {fa fb : DE} (ho : OpD X rc (binaryOp op) g) (ha : PE X a (tU rc en W fa)) (hb : PE X b (tU rc en W fb)) : PE X (.BinOp a op b pos) (tU rc en W (dOp g fa fb)) := by
  obtain ⟨r, h1, h2⟩ := ho
  exact (pe_op h1 ha hb).imp fun σ H Q h => Ends3.opD h2 h
theorem pu_cmp {op : CmpOp} {g : D → D → Option D} {fa fb : DE} (ho : OpD X rc (compareOp op) g) (ha : PE X a (tU rc en W fa)) (hb : PE X b (tU rc en W fb)) (hm : behindInMarks op b = false := by first | exact nobehind _ (by decide) (by decide) | rfl) : PE X (.Compare a [op] [b] pos) (tU rc en W (dOp g fa fb)) := by
  obtain ⟨r, h1, h2⟩ := ho
  exact (pe_cmpR h1 ha hb hm).imp fun σ H Q h => Ends3.opD h2 h
end
end U
set_option maxRecDepth 100000
set_option maxHeartbeats 2000000
/-! PL3: the operators on plain data; tests; and, or, not; displays; subscripts; slices; calls of built-ins. -/
namespace U
open PySem PySem.Spec PyProof.Rows L2
theorem opR_or {X : Cx} {f : Value → Value → Sem Value} {r r' : R2} (h : OpR X f r) (h' : OpR X f r') : OpR X f (fun x y H Q => r x y H Q ∨ r' x y H Q) := by
  intro pins s σ H x y v u Q I rx ry q
  rcases q with q | q
  · exact h pins s σ H x y v u Q I rx ry q
  · exact h' pins s σ H x y v u Q I rx ry q
section
variable {X : Cx} {rc : RC X.K}
/-- one rule for one kind of operands, then another -/
theorem OpD.or {f : Value → Value → Sem Value} {g g' : D → D → Option D} (h : OpD X rc f g) (h' : OpD X rc f g') : OpD X rc f (fun d e => (g d e).or (g' d e)) := by
  obtain ⟨r, h1, h2⟩ := h
  obtain ⟨r', h1', h2'⟩ := h'
  refine ⟨_, opR_or h1 h1', fun G H v u d e x Q s rv ru ex k => ?_⟩
  cases q : g d e with
  | some y =>
    have ex' : (g d e).or (g' d e) = some x := ex
    rw [q] at ex'
    exact .inl (h2 G H v u d e x Q s rv ru (q.trans ex') k)
  | none =>
    have ex' : (g d e).or (g' d e) = some x := ex
    rw [q] at ex'
    exact .inr (h2' G H v u d e x Q s rv ru ex' k)
def onII (C : Int → Int → Bool) (h : Int → Int → D) : D → D → Option D
  | .int i, .int j => if C i j = true then some (h i j) else none
  | _, _ => none
theorem OpD.ii {f : Value → Value → Sem Value} {C : Int → Int → Prop} {Cb : Int → Int → Bool} {h : Int → Int → V} {g : Int → Int → D} (ho : OpR X f (rI C h)) (hc : ∀ i j, Cb i j = true → C i j) (hr : ∀ (G : Hp) i j, Rep rc G (h i j) (g i j)) : OpD X rc f (onII Cb g) := by
  refine ⟨_, ho, fun G H v u d e x Q s rv ru ex k => ?_⟩
  cases rv <;> first | (cases ex; done) | skip
  cases ru <;> first | (cases ex; done) | skip
  rename_i i j
  have ex' : (if Cb i j = true then some (g i j) else none) = some x := ex
  by_cases q : Cb i j = true
  · rw [if_pos q] at ex'
    cases ex'
    exact ⟨i, j, rfl, rfl, hc i j q, k _ G H (Grow.refl s) (hr G i j)⟩
  · rw [if_neg q] at ex'; cases ex'
def onII0 (h : Int → Int → D) : D → D → Option D
  | .int i, .int j => some (h i j)
  | _, _ => none
theorem OpD.ii0 {f : Value → Value → Sem Value} {h : Int → Int → V} {g : Int → Int → D} (ho : OpR X f (rI0 h)) (hr : ∀ (G : Hp) i j, Rep rc G (h i j) (g i j)) : OpD X rc f (onII0 g) := by
  refine ⟨_, ho, fun G H v u d e x Q s rv ru ex k => ?_⟩
  cases rv <;> first | (cases ex; done) | skip
  cases ru <;> first | (cases ex; done) | skip
  rename_i i j
  cases ex
  exact ⟨i, j, rfl, rfl, k _ G H (Grow.refl s) (hr G i j)⟩
abbrev mostD : Nat := 16777216
theorem mostD_eq : mostD = sizeLine := sizeLine_eq.symm
def onTT : D → D → Option D
  | .tup a, .tup b => if a.length + b.length ≤ mostD then some (.tup (a ++ b)) else none
  | _, _ => none
theorem Reps.nil_iff {K : PySem.W.Frag} {rc : RC K} {G : Hp} {xs : List V} {ds : List D} (r : Reps rc G xs ds) : xs = [] ↔ ds = [] := by
  cases r with
  | nil => simp
  | cons _ _ => simp
theorem op_tt : OpD X rc (binaryOp .Add) onTT := by
  refine ⟨_, op_catA, fun G H v u d e x Q s rv ru ex k => ?_⟩
  cases rv <;> first | (cases ex; done) | skip
  cases ru <;> first | (cases ex; done) | skip
  rename_i a xs ds ha hd b ys es hb he
  have ex' : (if ds.length + es.length ≤ mostD then some (D.tup (ds ++ es)) else none) = some x := ex
  by_cases q : ds.length + es.length ≤ mostD
  · rw [if_pos q] at ex'
    cases ex'
    refine ⟨a, b, xs, ys, rfl, rfl, Same.seqT s ha, Same.seqT s hb, by rw [hd.length, he.length, ← mostD_eq]; exact q, fun hx => ?_, fun hx hy => ?_, fun hx hy p hp => ?_⟩
    · have z := hd.nil_iff.mp hx
      subst z
      exact k _ G H (Grow.refl s) (.tup hb he)
    · have z := he.nil_iff.mp hy
      subst z
      exact k _ G H (Grow.refl s) (by rw [List.append_nil]; exact .tup ha hd)
    · have g := Grow.new (o := .tup (xs ++ ys)) s hp
      exact k _ _ _ g (.tup (SqT.of upd_same) ((hd.append he).mono g.g))
  · rw [if_neg q] at ex'; cases ex'
def onLL : D → D → Option D
  | .lst a, .lst b => if a.length + b.length ≤ mostD then some (.lst (a ++ b)) else none
  | _, _ => none
theorem op_ll : OpD X rc (binaryOp .Add) onLL := by
  refine ⟨_, op_cat, fun G H v u d e x Q s rv ru ex k => ?_⟩
  cases rv <;> first | (cases ex; done) | skip
  cases ru <;> first | (cases ex; done) | skip
  rename_i a xs ds ha hd b ys es hb he
  have ex' : (if ds.length + es.length ≤ mostD then some (D.lst (ds ++ es)) else none) = some x := ex
  by_cases q : ds.length + es.length ≤ mostD
  · rw [if_pos q] at ex'
    cases ex'
    refine ⟨a, b, xs, ys, rfl, rfl, s _ _ ha, s _ _ hb, by rw [hd.length, he.length, ← mostD_eq]; exact q, fun p hp => ?_⟩
    have g := Grow.new (o := .lst (xs ++ ys)) s hp
    exact k _ _ _ g (.lst upd_same ((hd.append he).mono g.g))
  · rw [if_neg q] at ex'; cases ex'
def addD : D → D → Option D := fun d e => (onII0 (fun i j => .int (i + j)) d e).or ((onTT d e).or (onLL d e))
theorem op_addD : OpD X rc (binaryOp .Add) addD := (OpD.ii0 op_add fun _ _ _ => .int _).or (op_tt.or op_ll)
def subD : D → D → Option D := onII0 fun i j => .int (i - j)
theorem op_subD : OpD X rc (binaryOp .Sub) subD := OpD.ii0 op_sub fun _ _ _ => .int _
def mulD : D → D → Option D := onII (fun i j => decide (i.natAbs.log2 + j.natAbs.log2 < 1000000)) fun i j => .int (i * j)
theorem op_mulD : OpD X rc (binaryOp .Mult) mulD := OpD.ii op_mulW (fun _ _ h => by simpa [CMulW] using h) fun _ _ _ => .int _
def modD : D → D → Option D := onII (fun _ j => decide (0 < j)) fun i j => .int (i % j)
theorem op_modD : OpD X rc (binaryOp .Mod) modD := OpD.ii op_mod (fun _ _ h => of_decide_eq_true h) fun _ _ _ => .int _
def fdivD : D → D → Option D := onII (fun _ j => decide (0 < j) && decide (j.natAbs.log2 < 9000)) fun i j => .int (i / j)
theorem op_fdivD : OpD X rc (binaryOp .FloorDiv) fdivD := OpD.ii op_fdivW (fun _ _ h => by simpa [CDivW] using h) fun _ _ _ => .int _
def powD : D → D → Option D := onII (fun i j => decide (0 ≤ j) && decide (j ≤ 1000000) && decide (i.natAbs < 2 ^ 64)) fun i j => .int (i ^ j.toNat)
theorem op_powD : OpD X rc (binaryOp .Pow) powD := OpD.ii op_pow (fun i j h => by
  simp only [Bool.and_eq_true, decide_eq_true_eq] at h
  exact ⟨h.1.1, h.1.2, h.2⟩) fun _ _ _ => .int _
def ltD : D → D → Option D := onII0 fun i j => .bl (decide (i < j))
def leD : D → D → Option D := onII0 fun i j => .bl (decide (i ≤ j))
def gtD : D → D → Option D := onII0 fun i j => .bl (decide (j < i))
def geD : D → D → Option D := onII0 fun i j => .bl (decide (j ≤ i))
theorem op_ltD : OpD X rc (compareOp .Lt) ltD := OpD.ii0 op_lt fun _ _ _ => .bl _
theorem op_leD : OpD X rc (compareOp .LtE) leD := OpD.ii0 op_le fun _ _ _ => .bl _
theorem op_gtD : OpD X rc (compareOp .Gt) gtD := OpD.ii0 op_gt fun _ _ _ => .bl _
theorem op_geD : OpD X rc (compareOp .GtE) geD := OpD.ii0 op_ge fun _ _ _ => .bl _
end
/-! ### == of data -/
mutual
def toPy : D → Option PyData
  | .non => some .none
  | .bl b => some (.bool b)
  | .int i => some (.int i)
  | .str x => some (.str x)
  | .tup ds => (toPys ds).map .tuple
  | .lst ds => (toPys ds).map .list
  | _ => none
def toPys : List D → Option (List PyData)
  | [] => some []
  | d :: ds => match toPy d, toPys ds with
    | some a, some b => some (a :: b)
    | _, _ => none
end
mutual
theorem Rep.dp {K : PySem.W.Frag} {rc : RC K} {G : Hp} {v : V} {d : D} {a : PyData} : Rep rc G v d → toPy d = some a → Dp K G v a
  | .non, e => by cases e; exact .non
  | .bl b, e => by cases e; exact .bl b
  | .int b, e => by cases e; exact .int b
  | .str b, e => by cases e; exact .str b
  | .tup h r, e => by
    rename_i ds
    have e' : (toPys ds).map PyData.tuple = some a := by
      have e2 := e
      unfold toPy at e2
      exact e2
    cases q : toPys ds with
    | none => rw [q] at e'; cases e'
    | some l => rw [q] at e'; cases e'; exact .tup h (Reps.dp r q)
  | .lst h r, e => by
    rename_i ds
    have e' : (toPys ds).map PyData.list = some a := by
      have e2 := e
      unfold toPy at e2
      exact e2
    cases q : toPys ds with
    | none => rw [q] at e'; cases e'
    | some l => rw [q] at e'; cases e'; exact .lst (SqL.of h) (Reps.dp r q)
  | .scr _ _, e => by unfold toPy at e; cases e
  | .ins _ _, e => by unfold toPy at e; cases e
  | .exc _, e => by unfold toPy at e; cases e
  | .cls, e => by unfold toPy at e; cases e
theorem Reps.dp {K : PySem.W.Frag} {rc : RC K} {G : Hp} {vs : List V} {ds : List D} {l : List PyData} : Reps rc G vs ds → toPys ds = some l → DpAll K G vs l
  | .nil, e => by unfold toPys at e; cases e; exact .nil
  | .cons h r, e => by
    rename_i d ds
    unfold toPys at e
    cases q : toPy d with
    | none => rw [q] at e; simp at e
    | some a =>
      cases q2 : toPys ds with
      | none => rw [q, q2] at e; simp at e
      | some b =>
        rw [q, q2] at e
        cases e
        exact .cons (Rep.dp h q) (Reps.dp r q2)
end
/-- == of plain data of these kinds -/
def eqB (d e : D) : Option Bool := match toPy d, toPy e with
  | some a, some b => if SeqAt.shaped a && SeqAt.shaped b then some (PyData.eqv a b) else none
  | _, _ => none
theorem eqB_some {d e : D} {k : Bool} (h : eqB d e = some k) : ∃ a b, toPy d = some a ∧ toPy e = some b ∧ SeqAt.shaped a = true ∧ SeqAt.shaped b = true ∧ k = PyData.eqv a b := by
  unfold eqB at h
  cases q : toPy d with
  | none => rw [q] at h; cases h
  | some a =>
    cases q2 : toPy e with
    | none => rw [q, q2] at h; cases h
    | some b =>
      rw [q, q2] at h
      dsimp only at h
      by_cases z : (SeqAt.shaped a && SeqAt.shaped b) = true
      · rw [if_pos z] at h
        rw [Bool.and_eq_true] at z
        exact ⟨a, b, rfl, rfl, z.1, z.2, (Option.some.inj h).symm⟩
      · rw [if_neg z] at h; cases h
def eqD (d e : D) : Option D := (eqB d e).map .bl
def neD (d e : D) : Option D := (eqB d e).map fun b => .bl (!b)
section
variable {X : Cx} {rc : RC X.K}
theorem op_eqD' (hu : X.A.units + 64 < cLine) : OpD X rc (compareOp .Eq) eqD := by
  refine ⟨_, op_eqD hu, fun G H v u d e x Q s rv ru ex k => ?_⟩
  unfold eqD at ex
  cases q : eqB d e with
  | none => rw [q] at ex; cases ex
  | some b =>
    rw [q] at ex
    cases ex
    obtain ⟨a, c, h1, h2, h3, h4, rfl⟩ := eqB_some q
    exact ⟨a, c, (rv.mono s).dp h1, (ru.mono s).dp h2, h3, h4, k _ G H (Grow.refl s) (.bl _)⟩
theorem op_neD' (hu : X.A.units + 64 < cLine) : OpD X rc (compareOp .NotEq) neD := by
  refine ⟨_, op_neD hu, fun G H v u d e x Q s rv ru ex k => ?_⟩
  unfold neD at ex
  cases q : eqB d e with
  | none => rw [q] at ex; cases ex
  | some b =>
    rw [q] at ex
    cases ex
    obtain ⟨a, c, h1, h2, h3, h4, rfl⟩ := eqB_some q
    exact ⟨a, c, (rv.mono s).dp h1, (ru.mono s).dp h2, h3, h4, k _ G H (Grow.refl s) (.bl _)⟩
end
end U
set_option maxRecDepth 100000
set_option maxHeartbeats 2000000
/-! PL4: looks at what may still change; tests; and, or, not; displays; subscripts; slices; calls of built-ins. -/
namespace U
open PySem PySem.Spec PyProof.Rows L2
/-- plain, or an object that may still change, as it stands -/
def PRep {K : PySem.W.Frag} (rc : RC K) (G H : Hp) (v : V) (d : D) : Prop := Rep rc G v d ∨ ∃ p, v = .ref p ∧ CellRep rc G H p d
section
variable {K : PySem.W.Frag} {rc : RC K} {G H : Hp} {v : V}
theorem PRep.lst (s : Same G H) {ds : List D} (h : PRep rc G H v (.lst ds)) : ∃ a xs, v = .ref a ∧ H a = some (.lst xs) ∧ Reps rc G xs ds := by
  rcases h with h | ⟨p, rfl, xs, h1, h2⟩
  · cases h with
    | lst h r => exact ⟨_, _, rfl, s _ _ h, r⟩
  · exact ⟨p, xs, rfl, h1, h2⟩
theorem PRep.tup (s : Same G H) {ds : List D} (h : PRep rc G H v (.tup ds)) : ∃ a xs, v = .ref a ∧ SqT K G a xs ∧ SqT K H a xs ∧ Reps rc G xs ds := by
  rcases h with h | ⟨p, rfl, h⟩
  · cases h with
    | tup h r => exact ⟨_, _, rfl, h, Same.seqT s h, r⟩
  · exact h.elim
theorem PRep.scr (s : Same G H) {ds : List D} (h : PRep rc G H v (.scr ds)) : ∃ a xs, v = .ref a ∧ SqL K H a xs ∧ Reps rc G xs ds := by
  rcases h with h | ⟨p, rfl, h⟩
  · cases h with
    | scr h r => exact ⟨_, _, rfl, L2.Same.seq s h, r⟩
  · exact h.elim
theorem PRep.int {i : Int} (h : PRep rc G H v (.int i)) : v = .int i := by
  rcases h with h | ⟨p, rfl, h⟩
  · cases h; rfl
  · exact h.elim
theorem PRep.str {i : Str} (h : PRep rc G H v (.str i)) : v = .str i := by
  rcases h with h | ⟨p, rfl, h⟩
  · cases h; rfl
  · exact h.elim
theorem PRep.bl {i : Bool} (h : PRep rc G H v (.bl i)) : v = .bl i := by
  rcases h with h | ⟨p, rfl, h⟩
  · cases h; rfl
  · exact h.elim
theorem PRep.non (h : PRep rc G H v .non) : v = .non := by
  rcases h with h | ⟨p, rfl, h⟩
  · cases h; rfl
  · exact h.elim
end
section
variable {K : PySem.W.Frag} (rc : RC K) (en : En) (W : WX)
/-- a look: what is there now -/
def tP (f : DE) : TE := fun σ H Q => ∃ G st, SR rc en G H σ st ∧ Ends3 rc en W σ (f st) G fun d _ G' H' => ∀ v, PRep rc G' H' v d → Q v H'
end
section
variable {X : Cx} {rc : RC X.K} {en : En} {W : WX} {e a b c : Expr} {es : List Expr} {pos : Pos}
theorem pp_of {f : DE} (h : PE X e (tU rc en W f)) : PE X e (tP rc en W f) := h.imp fun σ H Q ⟨G, st, R, q⟩ => ⟨G, st, R, q.imp fun d st' G' H' s R' k v r => k v (.inl r)⟩
/-- the content of a slot -/
def Slot.see : Slot → Option D
  | .pure d => some d
  | .cell d => some d
  | .io _ d => some d
  | .fr d => some d
  | .un => none
def dSee (i : Nat) : DE := fun st => match (st[i]?).bind Slot.see with
  | some d => .ok d st
  | none => .stuck
theorem SR.see {G H : Hp} {σ : L2.St} {st : DSt} (R : SR rc en G H σ st) {i : Nat} {d : D} (h : (st[i]?).bind Slot.see = some d) : ∃ v, σ[i]? = some (some v) ∧ PRep rc G H v d := by
  cases q : st[i]? with
  | none => rw [q] at h; cases h
  | some s =>
    rw [q] at h
    cases s with
    | un => cases h
    | pure d' => cases h; obtain ⟨v, h1, h2⟩ := R.pure q; exact ⟨v, h1, .inl h2⟩
    | cell d' => cases h; obtain ⟨p, h1, _, _, h2⟩ := R.cell q; exact ⟨_, h1, .inr ⟨p, rfl, h2⟩⟩
    | fr d' => cases h; obtain ⟨v, h1, h2, _⟩ := R.frd q; exact ⟨v, h1, .inl h2⟩
    | io k d' => cases h; obtain ⟨p, h1, _, _, h2⟩ := R.io q; exact ⟨_, h1, .inr ⟨p, rfl, h2⟩⟩
theorem pp_var (i : Nat) {x : Str} (hN : X.N[i]? = some x := by rfl) (hv : Vis X.env.scope x := by first | exact Or.inl rfl | exact Or.inr (Or.inl rfl) | exact Or.inr (Or.inr rfl)) (hd : (x == ("__debug__" : Str)) = false := by decide)
    (hcd : (x == ("__classdict__" : Str)) = false := by decide) : PE X (.Name x pos) (tP rc en W (dSee i)) := (pe_var hN hv hd hcd).imp fun σ H Q ⟨G, st, R, q⟩ => by
  unfold dSee at q
  cases h : (st[i]?).bind Slot.see with
  | none => rw [h] at q; exact q.elim
  | some d =>
    rw [h] at q
    obtain ⟨v, h1, h2⟩ := R.see h
    exact ⟨v, h1, q G H (L2.Same.refl _) R v h2⟩
/-! ### tests -/
def bdVal (f : DE) : DT := fun st => (f st).bind fun d st' => match d with
  | .bl b => .ok b st'
  | _ => .stuck
theorem tD_val {f : DE} {σ : L2.St} {H : Hp} {Q : Bool → Hp → Prop} (h : tD rc en W (bdVal f) σ H Q) : tU rc en W f σ H fun x H' => ∃ k, x = .bl k ∧ Q k H' := by
  obtain ⟨G, st, R, h⟩ := h
  refine ⟨G, st, R, (Ends3.bind h).imp fun d st1 G1 H1 s1 R1 h1 v rv => ?_⟩
  cases rv <;> first | exact h1.elim | skip
  exact ⟨_, rfl, h1 _ _ (L2.Same.refl _) R1⟩
theorem pb_val {f : DE} (h : PE X e (tU rc en W f)) (he : ∀ whole, isTrue e X.env whole = (do let v ← whole; standAt e.pos; holding [v] (truthy v)) := by intro _; rfl) : PT X e (tD rc en W (bdVal f)) :=
  (pt_val h he).imp fun σ H Q q => tD_val q
theorem pb_cmp {op : CmpOp} {g : D → D → Option D} {fa fb : DE} (ho : OpD X rc (compareOp op) g) (ha : PE X a (tU rc en W fa)) (hb : PE X b (tU rc en W fb)) (hm : behindInMarks op b = false := by first | exact nobehind _ (by decide) (by decide) | rfl) : PT X (.Compare a [op] [b] pos) (tD rc en W (bdVal (dOp g fa fb))) := by
  obtain ⟨r, h1, h2⟩ := ho
  exact (pt_cmpR h1 ha hb hm).imp fun σ H Q h => Ends3.opD h2 (tD_val h)
/-- a op b op' c -/
def dChain (g g' : D → D → Option D) (fa fb fc : DE) : DE := fun st => (fa st).bind fun d st1 => (fb st1).bind fun e st2 => match g d e with
  | some (.bl true) => (fc st2).bind fun x st3 => .opt (g' e x) st3
  | some (.bl false) => .ok (.bl false) st2
  | _ => .stuck
theorem tU_chain {r r' : R2} {g g' : D → D → Option D} {fa fb fc : DE} (hr : ∀ (G H : Hp) (v u : V) (d e x : D) (Q : VK), Same G H → Rep rc G v d → Rep rc G u e → g d e = some x → (∀ w G' H', Grow G H G' H' → Rep rc G' w x → Q w H') → r v u H Q)
    (hr' : ∀ (G H : Hp) (v u : V) (d e x : D) (Q : VK), Same G H → Rep rc G v d → Rep rc G u e → g' d e = some x → (∀ w G' H', Grow G H G' H' → Rep rc G' w x → Q w H') → r' v u H Q) {σ : L2.St} {H : Hp} {Q : VK}
    (h : tU rc en W (dChain g g' fa fb fc) σ H Q) : tChain r r' (tU rc en W fa) (tU rc en W fb) (tU rc en W fc) σ H Q := by
  obtain ⟨G, st, R, h⟩ := h
  refine ⟨G, st, R, (Ends3.bind h).imp fun d st1 G1 H1 s1 R1 h1 v rv => ⟨G1, st1, R1, (Ends3.bind h1).imp fun e st2 G2 H2 s2 R2 h2 u ru => ?_⟩⟩
  cases q : g d e with
  | none => rw [q] at h2; exact h2.elim
  | some x =>
    rw [q] at h2
    refine hr G2 H2 v u d e x _ R2.gh (rv.mono s2) ru q fun w G' H' gr rw' => ?_
    cases x with
    | bl k =>
      cases rw'
      refine ⟨k, rfl, ?_⟩
      have R3 := R2.grow gr
      cases k with
      | true =>
        rw [if_pos rfl]
        have h3 : Ends3 rc en W σ ((fc st2).bind fun x st3 => DR.opt (g' e x) st3) G2 (fun d _ G' H' => ∀ v, Rep rc G' v d → Q v H') := h2
        refine ⟨G', st2, R3, (Ends3.bind (h3.up gr.g)).imp fun x st3 G3 H3 s3 R4 h4 z rz => ?_⟩
        obtain ⟨y, ey, k⟩ := Ends3.opt h4
        exact hr' G3 H3 u z e x y Q R4.gh ((ru.mono gr.g).mono s3) rz ey fun w' G4 H4 g4 rw4 => k G4 H4 g4.g (R4.grow g4) w' rw4
      | false =>
        rw [if_neg Bool.false_ne_true]
        exact h2 _ _ gr.g R3 _ (.bl _)
    | _ => exact h2.elim
theorem pu_chain {op op' : CmpOp} {g g' : D → D → Option D} {fa fb fc : DE} (ho : OpD X rc (compareOp op) g) (ho' : OpD X rc (compareOp op') g') (ha : PE X a (tU rc en W fa)) (hb : PE X b (tU rc en W fb)) (hc : PE X c (tU rc en W fc))
    (hm : lastMarks [op, op'] [b, c] = false := by with_unfolding_all rfl) : PE X (.Compare a [op, op'] [b, c] pos) (tU rc en W (dChain g g' fa fb fc)) := by
  obtain ⟨r, h1, h2⟩ := ho
  obtain ⟨r', h1', h2'⟩ := ho'
  exact (pe_chain h1 h1' ha hb hc hm).imp fun σ H Q h => tU_chain h2 h2' h
theorem pb_chain {op op' : CmpOp} {g g' : D → D → Option D} {fa fb fc : DE} (ho : OpD X rc (compareOp op) g) (ho' : OpD X rc (compareOp op') g') (ha : PE X a (tU rc en W fa)) (hb : PE X b (tU rc en W fb)) (hc : PE X c (tU rc en W fc))
    (hm : lastMarks [op, op'] [b, c] = false := by with_unfolding_all rfl) : PT X (.Compare a [op, op'] [b, c] pos) (tD rc en W (bdVal (dChain g g' fa fb fc))) := by
  obtain ⟨r, h1, h2⟩ := ho
  obtain ⟨r', h1', h2'⟩ := ho'
  exact (pt_chain h1 h1' ha hb hc hm).imp fun σ H Q h => tU_chain h2 h2' (tD_val h)
/-! and, or, not -/
def bdAnd (f g : DT) : DT := fun st => (f st).bind fun b st' => match b with
  | true => g st'
  | false => .ok false st'
def bdOr (f g : DT) : DT := fun st => (f st).bind fun b st' => match b with
  | true => .ok true st'
  | false => g st'
def bdNot (f : DT) : DT := fun st => (f st).bind fun b st' => .ok (!b) st'
variable {f g : DT} {rest : List Expr}
theorem _root_.L2.PW.imp {t t' : TT} (h : PW X e t) (k : ∀ σ H Q, t' σ H Q → t σ H Q) : PW X e t' := ⟨fun wh pins s σ H Q I q => h.run wh pins s σ H Q I (k σ H Q q)⟩
theorem pw_and1' (ha : PT X a (tD rc en W f)) : PW X (.BoolOp .And [a] pos) (tD rc en W f) := pw_and1 ha
theorem pw_or1' (ha : PT X a (tD rc en W f)) : PW X (.BoolOp .Or [a] pos) (tD rc en W f) := pw_or1 ha
theorem pw_and' (ha : PT X a (tD rc en W f)) (hb : PW X (.BoolOp .And (b :: rest) pos) (tD rc en W g)) : PW X (.BoolOp .And (a :: b :: rest) pos) (tD rc en W (bdAnd f g)) := (pw_and ha hb).imp fun σ H Q ⟨G, st, R, h⟩ => ⟨G, st, R, (Ends3.bind h).imp fun k st1 G1 H1 s1 R1 h1 => by
  cases k with
  | true => rw [if_pos rfl]; exact ⟨G1, st1, R1, h1⟩
  | false => rw [if_neg Bool.false_ne_true]; exact h1 _ _ (L2.Same.refl _) R1⟩
theorem pw_or' (ha : PT X a (tD rc en W f)) (hb : PW X (.BoolOp .Or (b :: rest) pos) (tD rc en W g)) : PW X (.BoolOp .Or (a :: b :: rest) pos) (tD rc en W (bdOr f g)) := (pw_or ha hb).imp fun σ H Q ⟨G, st, R, h⟩ => ⟨G, st, R, (Ends3.bind h).imp fun k st1 G1 H1 s1 R1 h1 => by
  cases k with
  | true => rw [if_pos rfl]; exact h1 _ _ (L2.Same.refl _) R1
  | false => rw [if_neg Bool.false_ne_true]; exact ⟨G1, st1, R1, h1⟩⟩
theorem pb_not (ha : PT X a (tD rc en W f)) : PT X (.UnaryOp .Not a pos) (tD rc en W (bdNot f)) := (pt_not ha).imp fun σ H Q ⟨G, st, R, h⟩ => ⟨G, st, R, (Ends3.bind h).imp fun k st1 G1 H1 s1 R1 h1 => h1 _ _ (L2.Same.refl _) R1⟩
/-- as values: all but the last True or False -/
def dAnd (fa fb : DE) : DE := fun st => (fa st).bind fun d st' => match d with
  | .bl true => fb st'
  | .bl false => .ok (.bl false) st'
  | _ => .stuck
def dOr (fa fb : DE) : DE := fun st => (fa st).bind fun d st' => match d with
  | .bl true => .ok (.bl true) st'
  | .bl false => fb st'
  | _ => .stuck
def dNot (fa : DE) : DE := fun st => (fa st).bind fun d st' => match d with
  | .bl b => .ok (.bl (!b)) st'
  | _ => .stuck
variable {fa fb fc : DE}
theorem pu_and (ha : PE X a (tU rc en W fa)) (hb : PE X (.BoolOp .And (b :: rest) pos) (tU rc en W fb)) : PE X (.BoolOp .And (a :: b :: rest) pos) (tU rc en W (dAnd fa fb)) := (pe_and ha hb).imp fun σ H Q ⟨G, st, R, h⟩ => ⟨G, st, R, (Ends3.bind h).imp fun d st1 G1 H1 s1 R1 h1 v rv => by
  cases rv <;> first | exact h1.elim | skip
  rename_i k
  refine ⟨k, rfl, ?_⟩
  cases k with
  | true => rw [if_pos rfl]; exact ⟨G1, st1, R1, h1⟩
  | false => rw [if_neg Bool.false_ne_true]; exact h1 _ _ (L2.Same.refl _) R1 _ (.bl _)⟩
theorem pu_or (ha : PE X a (tU rc en W fa)) (hb : PE X (.BoolOp .Or (b :: rest) pos) (tU rc en W fb)) : PE X (.BoolOp .Or (a :: b :: rest) pos) (tU rc en W (dOr fa fb)) := (pe_or ha hb).imp fun σ H Q ⟨G, st, R, h⟩ => ⟨G, st, R, (Ends3.bind h).imp fun d st1 G1 H1 s1 R1 h1 v rv => by
  cases rv <;> first | exact h1.elim | skip
  rename_i k
  refine ⟨k, rfl, ?_⟩
  cases k with
  | true => rw [if_pos rfl]; exact h1 _ _ (L2.Same.refl _) R1 _ (.bl _)
  | false => rw [if_neg Bool.false_ne_true]; exact ⟨G1, st1, R1, h1⟩⟩
theorem pu_one {op : Operator} {bop} (ha : PE X a (tU rc en W fa)) : PE X (.BoolOp bop [a] pos) (tU rc en W fa) := pe_one ha
theorem pu_not (ha : PE X a (tU rc en W fa)) : PE X (.UnaryOp .Not a pos) (tU rc en W (dNot fa)) := (pe_not ha).imp fun σ H Q ⟨G, st, R, h⟩ => ⟨G, st, R, (Ends3.bind h).imp fun d st1 G1 H1 s1 R1 h1 v rv => by
  cases rv <;> first | exact h1.elim | skip
  exact ⟨_, rfl, h1 _ _ (L2.Same.refl _) R1 _ (.bl _)⟩⟩
def dIf (f : DT) (fa fb : DE) : DE := fun st => (f st).bind fun b st' => match b with
  | true => fa st'
  | false => fb st'
theorem pu_if (hc : PT X c (tD rc en W f)) (ha : PE X a (tU rc en W fa)) (hb : PE X b (tU rc en W fb)) : PE X (.IfExp c a b pos) (tU rc en W (dIf f fa fb)) := (pe_ifExp hc ha hb).imp fun σ H Q ⟨G, st, R, h⟩ => ⟨G, st, R, (Ends3.bind h).imp fun k st1 G1 H1 s1 R1 h1 => by
  cases k with
  | true => rw [if_pos rfl]; exact ⟨G1, st1, R1, h1⟩
  | false => rw [if_neg Bool.false_ne_true]; exact ⟨G1, st1, R1, h1⟩⟩
/-- -a -/
def dNeg (fa : DE) : DE := fun st => (fa st).bind fun d st' => match d with
  | .int i => .ok (.int (-i)) st'
  | _ => .stuck
theorem pu_neg (ha : PE X a (tU rc en W fa)) : PE X (.UnaryOp .USub a pos) (tU rc en W (dNeg fa)) := (pe_un un_neg ha).imp fun σ H Q ⟨G, st, R, h⟩ => ⟨G, st, R, (Ends3.bind h).imp fun d st1 G1 H1 s1 R1 h1 v rv => by
  cases rv <;> first | exact h1.elim | skip
  exact ⟨_, rfl, h1 _ _ (L2.Same.refl _) R1 _ (.int _)⟩⟩
/-! ### lists of expressions, displays -/
def lNil : DA := fun st => .ok [] st
def lCons (fa : DE) (fl : DA) : DA := fun st => (fa st).bind fun d st1 => (fl st1).bind fun ds st2 => .ok (d :: ds) st2
theorem pl_nil : PA X [] (tL rc en W lNil) := pa_nil.imp fun σ H Q ⟨G, st, R, h⟩ => h G H (L2.Same.refl _) R _ .nil
theorem pl_cons {fl : DA} (ha : PE X a (tU rc en W fa)) (hr : PA X es (tL rc en W fl)) (hs : starEach (a :: es) X.env = (false, eval a X.env) :: starEach es X.env := by rfl) : PA X (a :: es) (tL rc en W (lCons fa fl)) := (pa_cons ha hr hs).imp fun σ H Q ⟨G, st, R, h⟩ => ⟨G, st, R, (Ends3.bind h).imp fun d st1 G1 H1 s1 R1 h1 v rv => ⟨G1, st1, R1, (Ends3.bind h1).imp fun ds st2 G2 H2 s2 R2 h2 vs rvs => h2 _ _ (L2.Same.refl _) R2 _ (.cons (rv.mono s2) rvs)⟩⟩
def dTup (fl : DA) : DE := fun st => (fl st).bind fun ds st' => if ds.length ≤ mostD then .ok (.tup ds) st' else .stuck
theorem pu_tup {fl : DA} {x1} (h : PA X es (tL rc en W fl)) : PE X (.Tuple es x1 pos) (tU rc en W (dTup fl)) := (pe_tup h).imp fun σ H Q ⟨G, st, R, h⟩ => ⟨G, st, R, (Ends3.bind h).imp fun ds st1 G1 H1 s1 R1 h1 vs rvs => by
  by_cases q : ds.length ≤ mostD
  · rw [if_pos q] at h1
    refine ⟨by rw [rvs.length, ← mostD_eq]; exact q, fun p hp => ?_⟩
    have g := Grow.new (o := .tup vs) R1.gh hp
    exact h1 _ _ g.g (R1.grow g) _ (.tup (SqT.of upd_same) (rvs.mono g.g))
  · rw [if_neg q] at h1; exact h1.elim⟩
def dLst (fl : DA) : DE := fun st => (fl st).bind fun ds st' => if ds.length ≤ mostD then .ok (.lst ds) st' else .stuck
theorem pf_lst {fl : DA} (h : PA X es (tL rc en W fl)) : PE X (.List es pos) (tF rc en W (dLst fl)) := (pe_lst h).imp fun σ H Q ⟨G, st, R, h⟩ => ⟨G, st, R, (Ends3.bind h).imp fun ds st1 G1 H1 s1 R1 h1 vs rvs => by
  by_cases q : ds.length ≤ mostD
  · rw [if_pos q] at h1
    refine ⟨by rw [rvs.length, ← mostD_eq]; exact q, fun p hp => ?_⟩
    have g := Grow.newH (o := .lst vs) R1.gh hp
    have f := Fresh.new R1 hp
    exact h1 _ _ g.g (R1.grow g) _ f ⟨vs, upd_same, rvs⟩
  · rw [if_neg q] at h1; exact h1.elim⟩
end
end U
set_option maxRecDepth 100000
set_option maxHeartbeats 2000000
/-! PL5: subscripts, slices, calls of built-ins. -/
namespace U
open PySem PySem.Spec PyProof.Rows L2
/-! ### subscripts -/
def ixD : D → D → Option D
  | .tup ds, .int i => atI ds i
  | .lst ds, .int i => atI ds i
  | _, _ => none
theorem Reps.atI {K : PySem.W.Frag} {rc : RC K} {G : Hp} {xs : List V} {ds : List D} {i : Int} {d : D} (r : Reps rc G xs ds) (h : L2.atI ds i = some d) : ∃ v, L2.atI xs i = some v ∧ Rep rc G v d := by
  unfold L2.atI at h ⊢
  rw [r.length]
  cases q : ixN ds.length i with
  | none => rw [q] at h; cases h
  | some j => rw [q] at h; exact r.getD h
section
variable {X : Cx} {rc : RC X.K} {en : En} {W : WX} {e a b c : Expr} {es : List Expr} {pos : Pos} {fa fb fc : DE}
theorem ix_rule {G H : Hp} {v u : V} {d e x : D} {Q : VK} (s : Same G H) (rv : PRep rc G H v d) (ru : Rep rc G u e) (ex : ixD d e = some x) (k : ∀ w, Rep rc G w x → Q w H) : rIx X.K v u H Q := by
  cases d with
  | tup ds =>
    obtain ⟨p, xs, rfl, _, hs, r⟩ := rv.tup s
    cases ru <;> first | (cases ex; done) | skip
    obtain ⟨w, h1, h2⟩ := Reps.atI r ex
    exact .inr (.inl ⟨p, xs, _, w, rfl, rfl, hs, h1, k w h2⟩)
  | lst ds =>
    obtain ⟨p, xs, rfl, hs, r⟩ := rv.lst s
    cases ru <;> first | (cases ex; done) | skip
    obtain ⟨w, h1, h2⟩ := Reps.atI r ex
    exact .inl ⟨p, xs, _, w, rfl, rfl, SqL.of hs, h1, k w h2⟩
  | _ => cases ex
theorem pu_ix (ha : PE X a (tU rc en W fa)) (hb : PE X b (tU rc en W fb)) (hs : PlainIx b := by exact fun _ _ => rfl) : PE X (.Subscript a b pos) (tU rc en W (dOp ixD fa fb)) := (pe_ix ix_seq ha hb hs).imp fun σ H Q h => by
  obtain ⟨G, st, R, h⟩ := h
  refine ⟨G, st, R, (Ends3.bind h).imp fun d st1 G1 H1 s1 R1 h1 v rv => ⟨G1, st1, R1, (Ends3.bind h1).imp fun e st2 G2 H2 s2 R2 h2 u ru => ?_⟩⟩
  obtain ⟨x, ex, k⟩ := Ends3.opt h2
  exact ix_rule R2.gh (.inl (rv.mono s2)) ru ex fun w rw' => k G2 H2 (L2.Same.refl _) R2 w rw'
/-- name[b], the name's object may still change -/
def dIxv (i : Nat) (fb : DE) : DE := fun st => match (st[i]?).bind Slot.see with
  | some _ => (fb st).bind fun e st' => match (st'[i]?).bind Slot.see with
    | some d => .opt (ixD d e) st'
    | none => .stuck
  | none => .stuck
theorem pu_ixv (i : Nat) {x : Str} {p : Pos} (hb : PE X b (tU rc en W fb)) (hN : X.N[i]? = some x := by rfl) (hv : Vis X.env.scope x := by first | exact Or.inl rfl | exact Or.inr (Or.inl rfl) | exact Or.inr (Or.inr rfl)) (hs : PlainIx b := by exact fun _ _ => rfl) (hd : (x == ("__debug__" : Str)) = false := by decide)
    (hcd : (x == ("__classdict__" : Str)) = false := by decide) : PE X (.Subscript (.Name x p) b pos) (tU rc en W (dIxv i fb)) := (pe_ix ix_seq (pe_var hN hv hd hcd) hb hs).imp fun σ H Q h => by
  obtain ⟨G, st, R, h⟩ := h
  unfold dIxv at h
  cases q : (st[i]?).bind Slot.see with
  | none => rw [q] at h; exact h.elim
  | some d0 =>
    rw [q] at h
    obtain ⟨v, hv0, _⟩ := R.see q
    refine ⟨v, hv0, G, st, R, (Ends3.bind h).imp fun e st2 G2 H2 s2 R2 h2 u ru => ?_⟩
    cases q2 : (st2[i]?).bind Slot.see with
    | none => rw [q2] at h2; exact h2.elim
    | some d =>
      rw [q2] at h2
      obtain ⟨v', hv1, pr⟩ := R2.see q2
      rw [hv0] at hv1; cases hv1
      obtain ⟨x, ex, k⟩ := Ends3.opt h2
      exact ix_rule R2.gh pr ru ex fun w rw' => k G2 H2 (L2.Same.refl _) R2 w rw'
/-! ### slices -/
abbrev DO := DSt → DR (Option Int)
def oNone : DO := fun st => .ok none st
def oSome (fa : DE) : DO := fun st => (fa st).bind fun d st' => match d with
  | .int i => .ok (some i) st'
  | _ => .stuck
def tO (rc : RC X.K) (en : En) (W : WX) (f : DO) : TO := fun σ H Q => ∃ G st, SR rc en G H σ st ∧ Ends3 rc en W σ (f st) G fun o _ _ H' => Q o H'
theorem _root_.L2.PO.imp {X : Cx} {oe : Option Expr} {t t' : TO} (h : PO X oe t) (k : ∀ σ H Q, t' σ H Q → t σ H Q) : PO X oe t' := ⟨fun pins s σ H Q I q => h.run pins s σ H Q I (k σ H Q q)⟩
theorem pu_onone : PO X none (tO rc en W oNone) := po_none.imp fun σ H Q ⟨G, st, R, h⟩ => h G H (L2.Same.refl _) R
theorem pu_osome (ha : PE X a (tU rc en W fa)) : PO X (some a) (tO rc en W (oSome fa)) := (po_some ha).imp fun σ H Q ⟨G, st, R, h⟩ => ⟨G, st, R, (Ends3.bind h).imp fun d st1 G1 H1 s1 R1 h1 v rv => by
  cases rv <;> first | exact h1.elim | skip
  exact ⟨_, rfl, h1 _ _ (L2.Same.refl _) R1⟩⟩
def cutD (ds : List D) (lo hi : Option Int) : List D := (ds.drop (HT.sIx ds.length 0 lo)).take (HT.sIx ds.length ds.length hi - HT.sIx ds.length 0 lo)
theorem Reps.cut {K : PySem.W.Frag} {rc : RC K} {G : Hp} {xs : List V} {ds : List D} (r : Reps rc G xs ds) (lo hi : Option Int) : Reps rc G (cutV xs lo hi) (cutD ds lo hi) := by
  unfold cutV cutD
  rw [r.length]
  exact (r.drop _).take _
def dSl (fa : DE) (lo hi : DO) (g : D → Option Int → Option Int → Option D) : DE := fun st => (fa st).bind fun d st1 => (lo st1).bind fun l st2 => (hi st2).bind fun h st3 => .opt (g d l h) st3
def slLD : D → Option Int → Option Int → Option D
  | .lst ds, l, h => some (.lst (cutD ds l h))
  | .scr ds, l, h => some (.lst (cutD ds l h))
  | _, _, _ => none
def slTD : D → Option Int → Option Int → Option D
  | .tup ds, l, h => some (.tup (cutD ds l h))
  | _, _, _ => none
theorem slR_or {r r' : V → Option Int → Option Int → Hp → VK → Prop} (h : SlR X r) (h' : SlR X r') : SlR X (fun x lo hi H Q => r x lo hi H Q ∨ r' x lo hi H Q) := h.or h'
/-- a[lo:hi] of a list: a new list -/
theorem pf_sl {lo hi : Option Expr} {p2 : Pos} {fl fh : DO} (ha : PE X a (tU rc en W fa)) (hl : PO X lo (tO rc en W fl)) (hh : PO X hi (tO rc en W fh)) : PE X (.Subscript a (.Slice lo hi none p2) pos) (tF rc en W (dSl fa fl fh slLD)) := (pe_slice sl_list ha hl hh).imp fun σ H Q h => by
  obtain ⟨G, st, R, h⟩ := h
  refine ⟨G, st, R, (Ends3.bind h).imp fun d st1 G1 H1 s1 R1 h1 v rv => ⟨G1, st1, R1, (Ends3.bind h1).imp fun l st2 G2 H2 s2 R2 h2 => ⟨G2, st2, R2, (Ends3.bind h2).imp fun u st3 G3 H3 s3 R3 h3 => ?_⟩⟩⟩
  obtain ⟨x, ex, k⟩ := Ends3.opt h3
  have rv3 := (rv.mono s2).mono s3
  have done : ∀ (p : Addr) (xs : List V) (ds : List D), Reps rc G3 xs ds → x = .lst (cutD ds l u) → H3 p = none → Q (.ref p) (upd H3 p (.lst (cutV xs l u))) := fun p xs ds r ex hp => by
    have g := Grow.newH (o := .lst (cutV xs l u)) R3.gh hp
    refine k _ _ g.g (R3.grow g) p (Fresh.new R3 hp) ?_
    rw [ex]
    exact ⟨_, upd_same, r.cut l u⟩
  cases rv3 with
  | lst hs r =>
    cases ex
    exact ⟨_, _, rfl, SqL.of (R3.gh _ _ hs), fun p hp => done p _ _ r rfl hp⟩
  | scr hs r =>
    cases ex
    exact ⟨_, _, rfl, L2.Same.seq R3.gh hs, fun p hp => done p _ _ r rfl hp⟩
  | _ => cases ex
theorem pu_slT {lo hi : Option Expr} {p2 : Pos} {fl fh : DO} (ha : PE X a (tU rc en W fa)) (hl : PO X lo (tO rc en W fl)) (hh : PO X hi (tO rc en W fh)) : PE X (.Subscript a (.Slice lo hi none p2) pos) (tU rc en W (dSl fa fl fh slTD)) := (pe_slice sl_tupA ha hl hh).imp fun σ H Q h => by
  obtain ⟨G, st, R, h⟩ := h
  refine ⟨G, st, R, (Ends3.bind h).imp fun d st1 G1 H1 s1 R1 h1 v rv => ⟨G1, st1, R1, (Ends3.bind h1).imp fun l st2 G2 H2 s2 R2 h2 => ⟨G2, st2, R2, (Ends3.bind h2).imp fun u st3 G3 H3 s3 R3 h3 => ?_⟩⟩⟩
  obtain ⟨x, ex, k⟩ := Ends3.opt h3
  have rv3 := (rv.mono s2).mono s3
  cases rv3 with
  | tup hs r =>
    rename_i a xs ds
    cases ex
    refine ⟨a, xs, rfl, Same.seqT R3.gh hs, fun hw => ?_, fun hw p hp => ?_⟩
    · have z : cutD ds l u = ds := by
        unfold cutD
        rw [← r.length, hw.1, hw.2, List.drop_zero, Nat.sub_zero, r.length, List.take_length]
      exact k _ _ (L2.Same.refl _) R3 _ (by rw [z]; exact .tup hs r)
    · have g := Grow.new (o := .tup (cutV xs l u)) R3.gh hp
      exact k _ _ g.g (R3.grow g) _ (.tup (SqT.of upd_same) ((r.cut l u).mono g.g))
  | _ => cases ex
/-! ### calls of built-ins -/
/-- by plain arguments -/
def CallD (X : Cx) (rc : RC X.K) (f : Value) (g : List D → Option D) : Prop :=
  ∃ r, CallR X f r ∧ ∀ (G H : Hp) (vs : List V) (ds : List D) (x : D) (Q : VK), Same G H → Reps rc G vs ds → g ds = some x → (∀ w G' H', Grow G H G' H' → Rep rc G' w x → Q w H') → r vs H Q
/-- of one argument that may still change -/
def CallP (X : Cx) (rc : RC X.K) (f : Value) (g : D → Option D) : Prop :=
  ∃ r, CallR X f r ∧ ∀ (G H : Hp) (v : V) (d x : D) (Q : VK), Same G H → PRep rc G H v d → g d = some x → (∀ w G' H', Grow G H G' H' → Rep rc G' w x → Q w H') → r [v] H Q
/-- .. that makes a new object -/
def CallF (X : Cx) (rc : RC X.K) (f : Value) (g : D → Option D) : Prop :=
  ∃ r, CallR X f r ∧ ∀ (G H : Hp) (v : V) (d x : D) (Q : VK), Same G H → PRep rc G H v d → g d = some x → (∀ p o, H p = none → CellRep rc G (upd H p o) p x → Q (.ref p) (upd H p o)) → r [v] H Q
/-- what a call's name stands for -/
inductive Callee (X : Cx) (x : Str) : Value → Prop
  | blt {id : String} (hg : Gl X x) (hm : X.mg x = none) (hv : bootBuiltins x = some (.builtin id)) (hn : x ≠ "__name__") (hdb : (x == ("__debug__" : Str)) = false) : Callee X x (.builtin id)
  | ty {T : String} (hg : Gl X x) (hm : X.mg x = none) (hv : bootBuiltins x = some (.type T)) (hn : x ≠ "__name__") (hdb : (x == ("__debug__" : Str)) = false) : Callee X x (.type T)
  | glo {id : String} (hg : Gl X x) (hm : X.mg x = some (.builtin id)) (hdb : (x == ("__debug__" : Str)) = false) : Callee X x (.builtin id)
theorem Callee.rule {x : Str} {f : Value} {r : List V → Hp → VK → Prop} {t : TA} {p : Pos} (c : Callee X x f) (hc : CallR X f r) (ha : PA X (e :: es) t)
    (he : starEach (e :: es) X.env = (false, eval e X.env) :: starEach es X.env) (hpl : (backTo pos (starEach es X.env)).any (·.1) = false) : PE X (.Call (.Name x p) (e :: es) [] pos) (tCB r t) := by
  cases c with
  | blt hg hm hv hn hdb => exact pe_callB hc hg hm hv ha hn hdb he hpl
  | ty hg hm hv hn hdb => exact pe_callTy hc hg hm hv ha hn hdb he hpl
  | glo hg hm hdb => exact pe_callBfun hc hg hm ha hdb he hpl
def dCall (g : List D → Option D) (fl : DA) : DE := fun st => (fl st).bind fun ds st' => .opt (g ds) st'
def dCall1 (g : D → Option D) (fa : DE) : DE := fun st => (fa st).bind fun d st' => .opt (g d) st'
theorem pu_call {x : Str} {f : Value} {g : List D → Option D} {fl : DA} {p : Pos} (h : CallD X rc f g) (c : Callee X x f) (ha : PA X (e :: es) (tL rc en W fl))
    (he : starEach (e :: es) X.env = (false, eval e X.env) :: starEach es X.env := by rfl) (hpl : (backTo pos (starEach es X.env)).any (·.1) = false := by rfl) : PE X (.Call (.Name x p) (e :: es) [] pos) (tU rc en W (dCall g fl)) := by
  obtain ⟨r, h1, h2⟩ := h
  exact (c.rule h1 ha he hpl).imp fun σ H Q ⟨G, st, R, q⟩ => ⟨G, st, R, (Ends3.bind q).imp fun ds st1 G1 H1 s1 R1 q1 vs rvs => by
    obtain ⟨y, ey, k⟩ := Ends3.opt q1
    exact h2 G1 H1 vs ds y Q R1.gh rvs ey fun w G' H' g' rw' => k G' H' g'.g (R1.grow g') w rw'⟩
theorem pa_oneP (ha : PE X a (tP rc en W fa)) (hs : starEach [a] X.env = (false, eval a X.env) :: starEach [] X.env := by rfl) : PA X [a] (tCons (tP rc en W fa) tNil) := pa_cons ha pa_nil hs
theorem pu_callP {x : Str} {f : Value} {g : D → Option D} {p : Pos} (h : CallP X rc f g) (c : Callee X x f) (ha : PE X a (tP rc en W fa))
    (he : starEach [a] X.env = (false, eval a X.env) :: starEach [] X.env := by rfl) (hpl : (backTo pos (starEach [] X.env)).any (·.1) = false := by rfl) : PE X (.Call (.Name x p) [a] [] pos) (tU rc en W (dCall1 g fa)) := by
  obtain ⟨r, h1, h2⟩ := h
  exact (c.rule h1 (pa_oneP ha he) he hpl).imp fun σ H Q ⟨G, st, R, q⟩ => ⟨G, st, R, (Ends3.bind q).imp fun d st1 G1 H1 s1 R1 q1 v rv => by
    obtain ⟨y, ey, k⟩ := Ends3.opt q1
    exact h2 G1 H1 v d y Q R1.gh rv ey fun w G' H' g' rw' => k G' H' g'.g (R1.grow g') w rw'⟩
theorem pf_callF {x : Str} {f : Value} {g : D → Option D} {p : Pos} (h : CallF X rc f g) (c : Callee X x f) (ha : PE X a (tP rc en W fa))
    (he : starEach [a] X.env = (false, eval a X.env) :: starEach [] X.env := by rfl) (hpl : (backTo pos (starEach [] X.env)).any (·.1) = false := by rfl) : PE X (.Call (.Name x p) [a] [] pos) (tF rc en W (dCall1 g fa)) := by
  obtain ⟨r, h1, h2⟩ := h
  exact (c.rule h1 (pa_oneP ha he) he hpl).imp fun σ H Q ⟨G, st, R, q⟩ => ⟨G, st, R, (Ends3.bind q).imp fun d st1 G1 H1 s1 R1 q1 v rv => by
    obtain ⟨y, ey, k⟩ := Ends3.opt q1
    refine h2 G1 H1 v d y Q R1.gh rv ey fun q o hq cr => ?_
    have g := Grow.newH (o := o) R1.gh hq
    exact k _ _ g.g (R1.grow g) q (Fresh.new R1 hq) cr⟩
theorem CallP.or {f : Value} {g g' : D → Option D} (h : CallP X rc f g) (h' : CallP X rc f g') : CallP X rc f (fun d => (g d).or (g' d)) := by
  obtain ⟨r, h1, h2⟩ := h
  obtain ⟨r', h1', h2'⟩ := h'
  refine ⟨_, h1.or h1', fun G H v d x Q s rv ex k => ?_⟩
  cases q : g d with
  | some y =>
    have ex' : (g d).or (g' d) = some x := ex
    rw [q] at ex'
    exact .inl (h2 G H v d x Q s rv (q.trans ex') k)
  | none =>
    have ex' : (g d).or (g' d) = some x := ex
    rw [q] at ex'
    exact .inr (h2' G H v d x Q s rv ex' k)
/-! #### len, tuple, list, int, abs, min, max -/
def lenD : D → Option D
  | .lst ds => some (.int ds.length)
  | .tup ds => some (.int ds.length)
  | .scr ds => some (.int ds.length)
  | _ => none
theorem c_len : CallP X rc (.builtin "len") lenD := by
  refine ⟨_, call_len_seq, fun G H v d x Q s rv ex k => ?_⟩
  cases d with
  | lst ds =>
    obtain ⟨a, xs, rfl, h, r⟩ := rv.lst s
    cases ex
    exact ⟨a, xs, rfl, .inl (SqL.of h), by rw [r.length]; exact k _ G H (Grow.refl s) (.int _)⟩
  | tup ds =>
    obtain ⟨a, xs, rfl, _, h, r⟩ := rv.tup s
    cases ex
    exact ⟨a, xs, rfl, .inr h, by rw [r.length]; exact k _ G H (Grow.refl s) (.int _)⟩
  | scr ds =>
    obtain ⟨a, xs, rfl, h, r⟩ := rv.scr s
    cases ex
    exact ⟨a, xs, rfl, .inl h, by rw [r.length]; exact k _ G H (Grow.refl s) (.int _)⟩
  | _ => cases ex
def tupD : D → Option D
  | .lst ds => some (.tup ds)
  | .tup ds => some (.tup ds)
  | _ => none
theorem c_tuple : CallP X rc (.type "tuple") tupD := by
  refine ⟨_, call_tuple_of, fun G H v d x Q s rv ex k => ?_⟩
  cases d with
  | lst ds =>
    obtain ⟨a, xs, rfl, h, r⟩ := rv.lst s
    cases ex
    refine ⟨a, xs, rfl, .inl ⟨SqL.of h, fun l hl => ?_⟩⟩
    have g := Grow.new (o := .tup xs) s hl
    exact k _ _ _ g (.tup (SqT.of upd_same) (r.mono g.g))
  | tup ds =>
    obtain ⟨a, xs, rfl, h0, h, r⟩ := rv.tup s
    cases ex
    exact ⟨a, xs, rfl, .inr ⟨h, k _ G H (Grow.refl s) (.tup h0 r)⟩⟩
  | _ => cases ex
def lstD : D → Option D
  | .lst ds => some (.lst ds)
  | .tup ds => some (.lst ds)
  | _ => none
theorem c_list : CallF X rc (.type "list") lstD := by
  refine ⟨_, call_list_of, fun G H v d x Q s rv ex k => ?_⟩
  cases d with
  | lst ds =>
    obtain ⟨a, xs, rfl, h, r⟩ := rv.lst s
    cases ex
    exact ⟨a, xs, rfl, .inl (SqL.of h), fun l hl => k l _ hl ⟨xs, upd_same, r⟩⟩
  | tup ds =>
    obtain ⟨a, xs, rfl, h0, h, r⟩ := rv.tup s
    cases ex
    exact ⟨a, xs, rfl, .inr h, fun l hl => k l _ hl ⟨xs, upd_same, r⟩⟩
  | _ => cases ex
def intD : D → Option D
  | .int i => some (.int i)
  | .bl b => some (.int (if b then 1 else 0))
  | _ => none
theorem c_int : CallP X rc (.type "int") intD := by
  refine ⟨_, call_int1, fun G H v d x Q s rv ex k => ?_⟩
  cases d with
  | int i =>
    cases rv.int
    cases ex
    exact .inl ⟨i, rfl, k _ G H (Grow.refl s) (.int _)⟩
  | bl i =>
    cases rv.bl
    cases ex
    exact .inr ⟨i, rfl, k _ G H (Grow.refl s) (.int _)⟩
  | _ => cases ex
def absD : D → Option D
  | .int i => some (.int (if i < 0 then -i else i))
  | _ => none
theorem c_abs : CallP X rc (.builtin "abs") absD := by
  refine ⟨_, call_abs, fun G H v d x Q s rv ex k => ?_⟩
  cases d with
  | int i =>
    cases rv.int
    cases ex
    exact ⟨i, rfl, k _ G H (Grow.refl s) (.int _)⟩
  | _ => cases ex
def minD : List D → Option D
  | [.int i, .int j] => some (.int (if j < i then j else i))
  | _ => none
theorem c_min (hc : X.calm = true) : CallD X rc (.builtin "min") minD := by
  refine ⟨_, call_min2 hc, fun G H vs ds x Q s rv ex k => ?_⟩
  unfold minD at ex
  split at ex
  · cases ex
    cases rv with
    | cons r1 r2 =>
      cases r2 with
      | cons r2 r3 =>
        cases r3
        cases r1
        cases r2
        exact ⟨_, _, rfl, k _ G H (Grow.refl s) (.int _)⟩
  · cases ex
def maxD : List D → Option D
  | [.int i, .int j] => some (.int (if j > i then j else i))
  | _ => none
theorem c_max (hc : X.calm = true) : CallD X rc (.builtin "max") maxD := by
  refine ⟨_, call_max2 hc, fun G H vs ds x Q s rv ex k => ?_⟩
  unfold maxD at ex
  split at ex
  · cases ex
    cases rv with
    | cons r1 r2 =>
      cases r2 with
      | cons r2 r3 =>
        cases r3
        cases r1
        cases r2
        exact ⟨_, _, rfl, k _ G H (Grow.refl s) (.int _)⟩
  · cases ex
def combD : List D → Option D
  | [.int a, .int b] => if 0 ≤ a ∧ 0 ≤ b ∧ a.natAbs ≤ 18000 then some (.int (PySem.W.mcComb a b)) else none
  | _ => none
theorem cr_comb : CallR X (.builtin "math.comb") (fun vs H Q => ∃ a b : Int, vs = [.int a, .int b] ∧ 0 ≤ a ∧ 0 ≤ b ∧ a ≤ 18000 ∧ Q (.int (PySem.W.mcComb a b)) H) := by
  intro pins s σ H vs us Q I r h
  obtain ⟨a, b, rfl, h1, h2, h3, q⟩ := h
  obtain ⟨t, u, rfl⟩ := Vals.int2 r
  exact PySem.W.mc_comb h1 h2 (by omega) (.inr h3) fun _ => ⟨.int _, H, I.tok _, ⟨_, rfl⟩, q⟩
theorem c_comb : CallD X rc (.builtin "math.comb") combD := by
  refine ⟨_, cr_comb, fun G H vs ds x Q s rv ex k => ?_⟩
  unfold combD at ex
  split at ex
  · rename_i a b
    by_cases q : 0 ≤ a ∧ 0 ≤ b ∧ a.natAbs ≤ 18000
    · rw [if_pos q] at ex
      cases ex
      cases rv with
      | cons r1 r2 =>
        cases r2 with
        | cons r2 r3 =>
          cases r3
          cases r1
          cases r2
          exact ⟨a, b, rfl, q.1, q.2.1, (by have := q.2.2; omega), k _ G H (Grow.refl s) (.int _)⟩
    · rw [if_neg q] at ex; cases ex
  · cases ex
end
end U
set_option maxRecDepth 100000
set_option maxHeartbeats 2000000
/-! PL6: statements, targets, loops. -/
namespace U
open PySem PySem.Spec PyProof.Rows L2
inductive SX where
  | nx (st : DSt)
  | bk (st : DSt)
  | ct (st : DSt)
  | rt (d : D) (st : DSt)
  | rf (d : D) (st : DSt)
  | exc (x : XD) (st : DSt)
  | stuck
abbrev DS := DSt → SX
def DR.toS {α : Type} (r : DR α) (k : α → DSt → SX) : SX := match r with
  | .ok a st => k a st
  | .exc x st => .exc x st
  | .stuck => .stuck
section
variable {K : PySem.W.Frag} (rc : RC K) (en : En) (W : WX)
def EndS (G : Hp) (r : SX) (Dn : Ends) : Prop := match r with
  | .nx st' => ∀ σ' G' H', Same G G' → SR rc en G' H' σ' st' → Dn.nx σ' H'
  | .bk st' => ∀ σ' G' H', Same G G' → SR rc en G' H' σ' st' → Dn.bk σ' H'
  | .ct st' => ∀ σ' G' H', Same G G' → SR rc en G' H' σ' st' → Dn.ct σ' H'
  | .rt d st' => ∀ v σ' G' H', Same G G' → SR rc en G' H' σ' st' → Rep rc G' v d → Dn.rt v H'
  | .rf d st' => ∀ p σ' G' H', Same G G' → SR rc en G' H' σ' st' → G' p = none → en.H0 p = none → CellRep rc G' H' p d → Dn.rt (.ref p) H'
  | .exc x st' => ∀ cls dd σ' G' H', Same G G' → SR rc en G' H' σ' st' → XRep rc G' H' cls dd x → W cls dd σ' H'
  | .stuck => False
def tS (F : DS) : TS := fun Dn σ H => ∃ G st, SR rc en G H σ st ∧ EndS rc en W G (F st) Dn
end
section
variable {K : PySem.W.Frag} {rc : RC K} {en : En} {W : WX} {σ : L2.St} {G G1 : Hp} {Dn : Ends}
theorem EndS.up {r : SX} (s : Same G G1) (h : EndS rc en W G r Dn) : EndS rc en W G1 r Dn := by
  cases r with
  | nx st' => exact fun σ' G' H' s' => h σ' G' H' (s.trans s')
  | bk st' => exact fun σ' G' H' s' => h σ' G' H' (s.trans s')
  | ct st' => exact fun σ' G' H' s' => h σ' G' H' (s.trans s')
  | rt d st' => exact fun v σ' G' H' s' => h v σ' G' H' (s.trans s')
  | rf d st' => exact fun v σ' G' H' s' => h v σ' G' H' (s.trans s')
  | exc x st' => exact fun c d σ' G' H' s' => h c d σ' G' H' (s.trans s')
  | stuck => exact h
/-- from an expression on to a statement's end -/
theorem EndS.of {α : Type} {r : DR α} {k : α → DSt → SX} (h : EndS rc en W G (r.toS k) Dn) : Ends3 rc en W σ r G fun a st' G' _ => EndS rc en W G' (k a st') Dn := by
  cases r with
  | ok a st' => exact fun _ _ s _ => EndS.up s h
  | exc x st' => exact fun cls dd G' H' s R X => h cls dd σ G' H' s R X
  | stuck => exact h
end
section
variable {X : Cx} {rc : RC X.K} {en : En} {W : WX} {e a b c : Expr} {es : List Expr} {pos : Pos} {fa fb fc : DE} {st : Stmt} {rest body : List Stmt} {F F' : DS} {f : DT}
/-! ### blocks -/
def sNil : DS := fun st => .nx st
def sSeq (F F' : DS) : DS := fun st => match F st with
  | .nx st' => F' st'
  | r => r
theorem qs_nil : PSs X [] (tS rc en W sNil) := pss_nil.imp fun D σ H ⟨G, st, R, h⟩ => h σ G H (L2.Same.refl _) R
theorem qs_cons (h1 : PS X st (tS rc en W F)) (h2 : PSs X rest (tS rc en W F')) : PSs X (st :: rest) (tS rc en W (sSeq F F')) := (pss_cons h1 h2).imp fun D σ H ⟨G, st, R, h⟩ => ⟨G, st, R, by
  unfold sSeq at h
  cases q : F st with
  | nx st' => rw [q] at h; exact fun σ' G' H' s' R' => ⟨G', st', R', EndS.up s' h⟩
  | bk st' => rw [q] at h; exact h
  | ct st' => rw [q] at h; exact h
  | rt d st' => rw [q] at h; exact h
  | rf d st' => rw [q] at h; exact h
  | exc x st' => rw [q] at h; exact h
  | stuck => rw [q] at h; exact h⟩
theorem qs_one (h1 : PS X st (tS rc en W F)) : PSs X [st] (tS rc en W F) := pss_one h1
def sBk : DS := fun st => .bk st
def sCt : DS := fun st => .ct st
theorem q_pass : PS X (.Pass pos) (tS rc en W sNil) := ps_pass.imp fun D σ H ⟨G, st, R, h⟩ => h σ G H (L2.Same.refl _) R
theorem q_break : PS X (.Break pos) (tS rc en W sBk) := ps_break.imp fun D σ H ⟨G, st, R, h⟩ => h σ G H (L2.Same.refl _) R
theorem q_cont : PS X (.Continue pos) (tS rc en W sCt) := ps_continue.imp fun D σ H ⟨G, st, R, h⟩ => h σ G H (L2.Same.refl _) R
def sDrop (fa : DE) : DS := fun st => (fa st).toS fun _ st' => .nx st'
theorem q_expr (ha : PE X a (tU rc en W fa)) (hs : swapsWith a none pos.line X.env = pure false := by rfl) : PS X (.Expr a pos) (tS rc en W (sDrop fa)) := (ps_expr ha hs).imp fun D σ H ⟨G, st, R, h⟩ => ⟨G, st, R, (EndS.of h).imp fun d st1 G1 H1 s1 R1 h1 v rv => h1 σ G1 H1 (L2.Same.refl _) R1⟩
/-! ### names stored -/
def sSet (i : Nat) (fa : DE) : DS := fun st => (fa st).toS fun d st' => .nx (st'.set i (.pure d))
def sSetF (i : Nat) (fa : DE) : DS := fun st => (fa st).toS fun d st' => .nx (st'.set i (.cell d))
theorem q_set {i : Nat} {x : Str} {pos' : Pos} (hN : X.N.Nodup) (he : PE X e (tU rc en W fa)) (hi : X.N[i]? = some x := by rfl) (hx : Loc X.env.scope x := by first | exact Or.inl rfl | exact Or.inr rfl) (hs : swapsWith e (some (.Name x pos')) pos.line X.env = pure false := by rfl)
    (hf : X.fn x = true ∨ X.env.scope.names.lookup x = some .local := by first | exact .inl rfl | exact .inr rfl | assumption) : PS X (.Assign [.Name x pos'] e pos) (tS rc en W (sSet i fa)) := (ps_set hN hi hx he hs hf).imp fun D σ H ⟨G, st, R, h⟩ => ⟨G, st, R, (EndS.of h).imp fun d st1 G1 H1 s1 R1 h1 v rv => h1 _ G1 H1 (L2.Same.refl _) (R1.setPure i rv)⟩
theorem q_setF {i : Nat} {x : Str} {pos' : Pos} (hN : X.N.Nodup) (he : PE X e (tF rc en W fa)) (hi : X.N[i]? = some x := by rfl) (hx : Loc X.env.scope x := by first | exact Or.inl rfl | exact Or.inr rfl) (hs : swapsWith e (some (.Name x pos')) pos.line X.env = pure false := by rfl)
    (hf : X.fn x = true ∨ X.env.scope.names.lookup x = some .local := by first | exact .inl rfl | exact .inr rfl | assumption) : PS X (.Assign [.Name x pos'] e pos) (tS rc en W (sSetF i fa)) := (ps_set hN hi hx he hs hf).imp fun D σ H ⟨G, st, R, h⟩ => ⟨G, st, R, (EndS.of h).imp fun d st1 G1 H1 s1 R1 h1 p fp cr => h1 _ G1 H1 (L2.Same.refl _) (R1.setCell i fp cr)⟩
/-! ### if, return -/
def sIf (f : DT) (F F' : DS) : DS := fun st => (f st).toS fun b st' => match b with
  | true => F st'
  | false => F' st'
theorem q_if {c : Expr} {a b : List Stmt} (hc : PT X c (tD rc en W f)) (ha : PSs X a (tS rc en W F)) (hb : PSs X b (tS rc en W F')) : PS X (.If c a b pos) (tS rc en W (sIf f F F')) := (ps_if hc ha hb).imp fun D σ H ⟨G, st, R, h⟩ => ⟨G, st, R, (EndS.of h).imp fun k st1 G1 H1 s1 R1 h1 => by
  cases k with
  | true => rw [if_pos rfl]; exact ⟨G1, st1, R1, h1⟩
  | false => rw [if_neg Bool.false_ne_true]; exact ⟨G1, st1, R1, h1⟩⟩
def sRet (fa : DE) : DS := fun st => (fa st).toS fun d st' => .rt d st'
def sRetF (fa : DE) : DS := fun st => (fa st).toS fun d st' => .rf d st'
theorem q_ret (ha : PE X a (tU rc en W fa)) : PS X (.Return (some a) pos) (tS rc en W (sRet fa)) := (ps_ret ha).imp fun D σ H ⟨G, st, R, h⟩ => ⟨G, st, R, (EndS.of h).imp fun d st1 G1 H1 s1 R1 h1 v rv => h1 v σ G1 H1 (L2.Same.refl _) R1 rv⟩
theorem q_retF (ha : PE X a (tF rc en W fa)) : PS X (.Return (some a) pos) (tS rc en W (sRetF fa)) := (ps_ret ha).imp fun D σ H ⟨G, st, R, h⟩ => ⟨G, st, R, (EndS.of h).imp fun d st1 G1 H1 s1 R1 h1 p fp cr => h1 p σ G1 H1 (L2.Same.refl _) R1 fp.g fp.h0 cr⟩
def sRetN : DS := fun st => .rt .non st
theorem q_retN : PS X (.Return none pos) (tS rc en W sRetN) := ps_retN.imp fun D σ H ⟨G, st, R, h⟩ => h .non σ G H (L2.Same.refl _) R .non
/-- return name: what is the def's own is handed out -/
def sRetV (i : Nat) : DS := fun st => match st[i]? with
  | some (.pure d) => .rt d st
  | some (.fr d) => .rt d st
  | some (.cell d) => .rf d st
  | _ => .stuck
theorem q_retV (i : Nat) {x : Str} {p : Pos} (hN : X.N[i]? = some x := by rfl) (hv : Vis X.env.scope x := by first | exact Or.inl rfl | exact Or.inr (Or.inl rfl) | exact Or.inr (Or.inr rfl)) (hd : (x == ("__debug__" : Str)) = false := by decide)
    (hcd : (x == ("__classdict__" : Str)) = false := by decide) : PS X (.Return (some (.Name x p)) pos) (tS rc en W (sRetV i)) := (ps_ret (pe_var hN hv hd hcd)).imp fun D σ H ⟨G, st, R, h⟩ => by
  unfold sRetV at h
  cases q : st[i]? with
  | none => rw [q] at h; exact h.elim
  | some s =>
    rw [q] at h
    cases s with
    | un => exact h.elim
    | pure d =>
      obtain ⟨v, hv, r⟩ := R.pure q
      exact ⟨v, hv, h v σ G H (L2.Same.refl _) R r⟩
    | cell d =>
      obtain ⟨p, hv, gp, h0, r⟩ := R.cell q
      exact ⟨_, hv, h p σ G H (L2.Same.refl _) R gp h0 r⟩
    | io k d => exact h.elim
    | fr d =>
      obtain ⟨v, hv, r, _⟩ := R.frd q
      exact ⟨v, hv, h v σ G H (L2.Same.refl _) R r⟩
/-! ### name[i] = e, name.append(e) -/
def putD : D → D → D → Option D
  | .lst ds, .int i, x => (ixN ds.length i).map fun j => .lst (ds.set j x)
  | _, _, _ => none
def Slot.upd (s : Slot) (o : Option D) : Option Slot := o.map s.put
/-- the slot's object is changed by g -/
def onSlot (i : Nat) (g : D → Option D) (st : DSt) : Option DSt := (st[i]?).bind fun s => s.got.bind fun d => (g d).map fun d' => st.set i (s.put d')
theorem onSlot_some {i : Nat} {g : D → Option D} {st st' : DSt} (h : onSlot i g st = some st') : ∃ s d d', st[i]? = some s ∧ s.got = some d ∧ g d = some d' ∧ st' = st.set i (s.put d') := by
  unfold onSlot at h
  cases q : st[i]? with
  | none => rw [q] at h; cases h
  | some s =>
    rw [q] at h
    cases q2 : s.got with
    | none => simp [q2] at h
    | some d =>
      cases q3 : g d with
      | none => simp [q2, q3] at h
      | some d' =>
        simp [q2, q3] at h
        exact ⟨s, d, d', rfl, q2, q3, h.symm⟩
theorem Slot.got_isCell {s : Slot} {d : D} (h : s.got = some d) : s.isCell = true := by
  cases s <;> first | rfl | cases h
def optS (o : Option DSt) : SX := match o with
  | some st => .nx st
  | none => .stuck
theorem EndS.opt {G : Hp} {o : Option DSt} {Dn : Ends} (h : EndS rc en W G (optS o) Dn) : ∃ st', o = some st' ∧ ∀ σ' G' H', Same G G' → SR rc en G' H' σ' st' → Dn.nx σ' H' := by
  cases o with
  | none => exact h.elim
  | some st' => exact ⟨st', rfl, h⟩
/-- name[b] = a : the value first, then the name, then the place -/
def sPut (i : Nat) (fa fb : DE) : DS := fun st => (fa st).toS fun x st1 => match (st1[i]?).bind Slot.see with
  | some _ => (fb st1).toS fun j st2 => optS (onSlot i (fun d => putD d j x) st2)
  | none => .stuck
theorem q_put (i : Nat) {x : Str} {p p2 : Pos} (ha : PE X a (tU rc en W fa)) (hb : PE X b (tU rc en W fb)) (hN : X.N[i]? = some x := by rfl) (hv : Vis X.env.scope x := by first | exact Or.inl rfl | exact Or.inr (Or.inl rfl) | exact Or.inr (Or.inr rfl))
    (hsw : swapsWithSole [.Subscript (.Name x p) b p2] a pos.line X.env = pure false := by rfl) (hw : swappedStores [.Subscript (.Name x p) b p2] a X.env = pure none := by rfl)
    (h1 : (assignEach [.Subscript (.Name x p) b p2] X.env).map (·.2) = [assign (.Subscript (.Name x p) b p2) X.env] := by rfl)
    (has : ∀ v, assign (.Subscript (.Name x p) b p2) X.env v = (do
      let ov ← holding [v] (eval (.Name x p) X.env)
      let iv ← holding [v, ov] (eval b X.env)
      standAt p2
      holding [v, ov, iv] (setItem ov iv v)
      release [v, ov, iv] []) := by intro _; rfl) (hd : (x == ("__debug__" : Str)) = false := by decide)
    (hcd : (x == ("__classdict__" : Str)) = false := by decide) : PS X (.Assign [.Subscript (.Name x p) b p2] a pos) (tS rc en W (sPut i fa fb)) := by
  refine (ps_asg ha (pg_sub (pe_var hN hv hd hcd) hb set_list has) hsw hw h1).imp fun Dn σ H ⟨G, st, R, h⟩ => ⟨G, st, R, (EndS.of h).imp fun y st1 G1 H1 s1 R1 h1 v rv => ?_⟩
  cases q : (st1[i]?).bind Slot.see with
  | none => rw [q] at h1; exact h1.elim
  | some d0 =>
    rw [q] at h1
    obtain ⟨o, ho, _⟩ := R1.see q
    refine ⟨o, ho, G1, st1, R1, (EndS.of h1).imp fun j st2 G2 H2 s2 R2 h2 u ru => ?_⟩
    obtain ⟨st3, e3, k⟩ := EndS.opt h2
    obtain ⟨s, d, d', hs, hg, hp, rfl⟩ := onSlot_some e3
    obtain ⟨p', hp', gp, cr⟩ := R2.got hs hg
    rw [ho] at hp'; cases hp'
    unfold putD at hp
    cases d with
    | lst ds =>
      cases ru <;> first | (cases hp; done) | skip
      rename_i ji
      have hp' : (ixN ds.length ji).map (fun n => D.lst (ds.set n y)) = some d' := hp
      cases q2 : ixN ds.length ji with
      | none => rw [q2] at hp'; cases hp'
      | some n =>
        rw [q2] at hp'
        cases hp'
        obtain ⟨xs, hx, r⟩ := cr
        refine ⟨p', xs, ji, n, rfl, rfl, hx, by rw [r.length]; exact q2, ?_⟩
        exact k σ G2 _ (L2.Same.refl _) (R2.write hs (Slot.got_isCell hg) ho ⟨_, upd_same, Reps.set (rv.mono s2) n r⟩)
    | _ => cases hp
/-- name.append(a), a new object's end too -/
def appD : D → D → Option D
  | .lst ds, x => if ds.length < mostD then some (.lst (ds ++ [x])) else none
  | _, _ => none
def dApp (i : Nat) (fa : DE) : DE := fun st => match (st[i]?).bind Slot.see with
  | some (.lst _) => (fa st).bind fun x st1 => match onSlot i (fun d => appD d x) st1 with
    | some st2 => .ok .non st2
    | none => .stuck
  | _ => .stuck
theorem pu_app (i : Nat) {x : Str} {p ap cp : Pos} (ha : PE X a (tU rc en W fa)) (hN : X.N[i]? = some x := by rfl) (hv : Vis X.env.scope x := by first | exact Or.inl rfl | exact Or.inr (Or.inl rfl) | exact Or.inr (Or.inr rfl))
    (hbase : attributeBase (.Name x p) "append" X.env (eval (.Name x p) X.env) = eval (.Name x p) X.env := by rfl)
    (hfew : ((backTo cp (starEach [a] X.env)).all (fun x => !x.1) && (backToKw cp (keywordEach [] X.env)).all (fun x => x.1.isSome)
      && decide (([a] : List Expr).length + ([] : List Keyword).length + (if ([] : List Keyword).isEmpty then 0 else 1) < 30)) = true := by rfl)
    (hline : (ap.endLine == cp.line) = true := by rfl) (hs : starEach [a] X.env = (false, eval a X.env) :: starEach [] X.env := by rfl) (hplain : (backTo cp (starEach [] X.env)).any (·.1) = false := by rfl) (hd : (x == ("__debug__" : Str)) = false := by decide)
    (hcd : (x == ("__classdict__" : Str)) = false := by decide) : PE X (.Call (.Attribute (.Name x p) "append" ap) [a] [] cp) (tU rc en W (dApp i fa)) := by
  refine (pe_bm PySem.F.plainAttrs_list PySem.F.slot_list_append PySem.F.type_list_append mt_append (pe_var hN hv hd hcd) (pa_cons ha pa_nil hs) hbase hfew hline hs hplain).imp fun σ H Q ⟨G, st, R, h⟩ => ?_
  unfold dApp at h
  cases q : (st[i]?).bind Slot.see with
  | none => rw [q] at h; exact h.elim
  | some d0 =>
    rw [q] at h
    obtain ⟨o, ho, pr0⟩ := R.see q
    cases d0 with
    | lst ds0 =>
      obtain ⟨p', xs0, rfl, hx0, _⟩ := pr0.lst R.gh
      refine ⟨_, ho, .inl ⟨rfl, xs0, SqL.of hx0⟩, G, st, R, (Ends3.bind h).imp fun y st1 G1 H1 s1 R1 h1 v rv => ?_⟩
      cases q2 : onSlot i (fun d => appD d y) st1 with
      | none => rw [q2] at h1; exact h1.elim
      | some st2 =>
        rw [q2] at h1
        obtain ⟨s, d, d', hs', hg, hp, rfl⟩ := onSlot_some q2
        obtain ⟨p2, hp', gp, cr⟩ := R1.got hs' hg
        rw [ho] at hp'; cases hp'
        cases d with
        | lst ds =>
          have hp2 : (if ds.length < mostD then some (D.lst (ds ++ [y])) else none) = some d' := hp
          by_cases z : ds.length < mostD
          · rw [if_pos z] at hp2
            cases hp2
            obtain ⟨xs, hx, r⟩ := cr
            refine ⟨_, xs, v, rfl, rfl, hx, by rw [r.length, ← mostD_eq]; exact z, ?_⟩
            exact h1 G1 _ (L2.Same.refl _) (R1.write hs' (Slot.got_isCell hg) ho ⟨_, upd_same, r.append (.one rv)⟩) _ .non
          · rw [if_neg z] at hp2; cases hp2
        | _ => cases hp
    | _ => exact h.elim
/-! ### targets -/
abbrev TgD := D → DSt → Option DSt
def tGt (rc : RC X.K) (en : En) (t : TgD) (ts : List Nat) : TG := fun v σ H Q => ∃ G st d st', SR rc en G H σ st ∧ Rep rc G v d ∧ t d st = some st' ∧ ∀ σ' : L2.St, SR rc en G H σ' st' → σ'.length = σ.length → (∀ i : Nat, i ∉ ts → σ'[i]? = σ[i]?) → Q σ' H
def tGts (rc : RC X.K) (en : En) (t : List D → DSt → Option DSt) (ts : List Nat) : TGs := fun vs σ H Q => ∃ G st ds st', SR rc en G H σ st ∧ Reps rc G vs ds ∧ t ds st = some st' ∧ ∀ σ' : L2.St, SR rc en G H σ' st' → σ'.length = σ.length → (∀ i : Nat, i ∉ ts → σ'[i]? = σ[i]?) → Q σ' H
theorem _root_.L2.PG.imp {tg : Expr} {t t' : TG} (h : PG X tg t) (k : ∀ v σ H Q, t' v σ H Q → t v σ H Q) : PG X tg t' := ⟨fun pins s σ H v u Q I r q => h.run pins s σ H v u Q I r (k v σ H Q q)⟩
theorem _root_.L2.PGs.imp {tg : List Expr} {t t' : TGs} (h : PGs X tg t) (k : ∀ v σ H Q, t' v σ H Q → t v σ H Q) : PGs X tg t' := ⟨fun pins s σ H v u Q I r q => h.run pins s σ H v u Q I r (k v σ H Q q)⟩
def gN (i : Nat) : TgD := fun d st => some (st.set i (.pure d))
theorem g_name {i : Nat} {x : Str} {p : Pos} (hN : X.N.Nodup) (hi : X.N[i]? = some x := by rfl) (hx : Loc X.env.scope x := by first | exact Or.inl rfl | exact Or.inr rfl) (hf : X.fn x = true ∨ X.env.scope.names.lookup x = some .local := by first | exact .inl rfl | exact .inr rfl | assumption) : PG X (.Name x p) (tGt rc en (gN i) [i]) := (pg_name hN hi hx hf).imp fun v σ H Q ⟨G, st, d, st', R, r, e, k⟩ => by
  cases e
  exact k _ (R.setPure i r) (by rw [List.length_set]) fun j hj => List.getElem?_set_ne (fun z => hj (by simp [z]))
def gsNil : List D → DSt → Option DSt := fun ds st => match ds with
  | [] => some st
  | _ :: _ => none
def gsCons (t : TgD) (u : List D → DSt → Option DSt) : List D → DSt → Option DSt := fun ds st => match ds with
  | d :: r => (t d st).bind (u r)
  | [] => none
theorem gs_nil : PGs X [] (tGts rc en gsNil []) := pgs_nil.imp fun vs σ H Q ⟨G, st, ds, st', R, r, e, k⟩ => by
  cases r with
  | nil => cases e; exact ⟨rfl, k _ R rfl fun _ _ => rfl⟩
  | cons _ _ => cases e
theorem gs_cons {t : TgD} {u : List D → DSt → Option DSt} {ts us : List Nat} {es : List Expr} (h1 : PG X e (tGt rc en t ts)) (h2 : PGs X es (tGts rc en u us)) (hs : (assignEach (e :: es) X.env).map (·.2) = assign e X.env :: (assignEach es X.env).map (·.2) := by rfl) : PGs X (e :: es) (tGts rc en (gsCons t u) (ts ++ us)) := (pgs_cons h1 h2 hs).imp fun vs σ H Q ⟨G, st, ds, st', R, r, e, k⟩ => by
  cases r with
  | nil => cases e
  | @cons v vs d ds r1 r2 =>
    have e' : (t d st).bind (u ds) = some st' := e
    cases q : t d st with
    | none => rw [q] at e'; cases e'
    | some st1 =>
      rw [q] at e'
      exact ⟨v, vs, rfl, G, st, d, st1, R, r1, q, fun σ1 R1 l1 f1 => ⟨G, st1, ds, st', R1, r2, e', fun σ2 R2 l2 f2 => k σ2 R2 (l2.trans l1) fun i hi => by
        rw [List.mem_append, not_or] at hi
        exact (f2 i hi.2).trans (f1 i hi.1)⟩⟩
def gT (u : List D → DSt → Option DSt) (n : Nat) : TgD := fun d st => match d with
  | .tup ds => if ds.length = n then u ds st else none
  | _ => none
theorem g_tup {es : List Expr} {k : Nat} {u : List D → DSt → Option DSt} {us : List Nat} {n : Nat} (hc : X.calm = true) (h : PGs X es (tGts rc en u us)) (hn : (assignEach es X.env).length = n := by rfl) (hst : (assignEach es X.env).findIdx? (·.1) = none := by rfl) : PG X (.Tuple es k pos) (tGt rc en (gT u n) us) := (pg_tup hc h hn hst).imp fun v σ H Q ⟨G, st, d, st', R, r, e, q⟩ => by
  cases r with
  | @tup a xs ds hs r =>
    have e' : (if ds.length = n then u ds st else none) = some st' := e
    by_cases z : ds.length = n
    · rw [if_pos z] at e'
      exact ⟨a, xs, rfl, Same.seqT R.gh hs, r.length.trans z, G, st, ds, st', R, r, e', q⟩
    · rw [if_neg z] at e'; cases e'
  | _ => cases e
/-- target = a -/
def sAsg (fa : DE) (t : TgD) : DS := fun st => (fa st).toS fun d st' => optS (t d st')
theorem q_asg {tg : Expr} {t : TgD} {ts : List Nat} (ha : PE X a (tU rc en W fa)) (hg : PG X tg (tGt rc en t ts)) (hs : swapsWithSole [tg] a pos.line X.env = pure false := by rfl) (hw : swappedStores [tg] a X.env = pure none := by rfl)
    (h1 : (assignEach [tg] X.env).map (·.2) = [assign tg X.env] := by rfl) : PS X (.Assign [tg] a pos) (tS rc en W (sAsg fa t)) := (ps_asg ha hg hs hw h1).imp fun Dn σ H ⟨G, st, R, h⟩ => ⟨G, st, R, (EndS.of h).imp fun d st1 G1 H1 s1 R1 h1 v rv => by
  obtain ⟨st2, e2, k⟩ := EndS.opt h1
  exact ⟨G1, st1, d, st2, R1, rv, e2, fun σ' R' _ _ => k σ' G1 H1 (L2.Same.refl _) R'⟩⟩
/-! ### what is walked -/
/-- J walks over these items, whatever else comes to stand -/
def YD (rc : RC X.K) (Gb : Hp) (items : List D) (J : It) : Prop :=
  ∃ (Gd : Hp → Prop) (Y : Nat → Hp → V → Hp → Prop), Walk J items.length Gd Y ∧ (∀ G H, Same Gb G → Same G H → Gd H) ∧
    ∀ (i : Nat) (G H : Hp) (x : V) (H' : Hp), i < items.length → Same Gb G → Same G H → Y i H x H' → ∃ d, items[i]? = some d ∧ ∃ G', Grow G H G' H' ∧ Rep rc G' x d
def tI (rc : RC X.K) (en : En) (W : WX) (f : DA) : TI := fun σ H R => ∃ G st, SR rc en G H σ st ∧ Ends3 rc en W σ (f st) G fun items _ G' H' => ∀ J, YD rc G' items J → R J H'
theorem _root_.L2.PI.imp {tg iter : Expr} {t t' : TI} (h : PI X tg iter t) (k : ∀ σ H R, t' σ H R → t σ H R) : PI X tg iter t' := ⟨fun pins s σ H R I q => h.run pins s σ H R I (k σ H R q)⟩
theorem YD.list {Gb : Hp} {p : Addr} {xs : List V} {ds : List D} (hs : SqL X.K Gb p xs) (r : Reps rc Gb xs ds) : YD rc Gb ds (Itl X.K p) := by
  refine ⟨fun H => SqL X.K H p xs, YAt xs, by rw [← r.length]; exact walk_list, fun G H s1 s2 => L2.Same.seq (s1.trans s2) hs, fun i G H x H' hi s1 s2 y => ?_⟩
  obtain ⟨rfl, e⟩ := y
  obtain ⟨d, h1, h2⟩ := r.get e
  exact ⟨d, h1, G, Grow.refl s2, h2.mono s1⟩
theorem YD.tuple {Gb : Hp} {p : Addr} {xs : List V} {ds : List D} (hs : SqT X.K Gb p xs) (r : Reps rc Gb xs ds) : YD rc Gb ds (Itt X.K p) := by
  refine ⟨fun H => SqT X.K H p xs, YAt xs, by rw [← r.length]; exact walk_tup, fun G H s1 s2 => Same.seqT (s1.trans s2) hs, fun i G H x H' hi s1 s2 y => ?_⟩
  obtain ⟨rfl, e⟩ := y
  obtain ⟨d, h1, h2⟩ := r.get e
  exact ⟨d, h1, G, Grow.refl s2, h2.mono s1⟩
theorem YD.range {Gb : Hp} {lo : Int} {n : Nat} : YD rc Gb ((List.range n).map fun i => D.int (lo + (i : Nat))) (Itr lo n) := by
  refine ⟨fun _ => True, YFn fun i => .int (lo + i), by rw [List.length_map, List.length_range]; exact ⟨fun _ _ hi _ => hi, fun _ _ => Nat.le_refl _, fun i H x H' hi _ y => y⟩, fun _ _ _ _ => trivial, fun i G H x H' hi s1 s2 y => ?_⟩
  obtain ⟨rfl, rfl⟩ := y
  rw [List.length_map, List.length_range] at hi
  exact ⟨.int (lo + i), by simp [hi], G, Grow.refl s2, .int _⟩
/-- a list -/
def iL (fa : DE) : DA := fun st => (fa st).bind fun d st' => match d with
  | .lst ds => .ok ds st'
  | .scr ds => .ok ds st'
  | _ => .stuck
def iT (fa : DE) : DA := fun st => (fa st).bind fun d st' => match d with
  | .tup ds => .ok ds st'
  | _ => .stuck
theorem w_list {tg : Expr} (ha : PE X a (tU rc en W fa)) : PI X tg a (tI rc en W (iL fa)) := (pi_list ha).imp fun σ H R' ⟨G, st, R, h⟩ => ⟨G, st, R, (Ends3.bind h).imp fun d st1 G1 H1 s1 R1 h1 v rv => by
  cases rv <;> first | exact h1.elim | skip
  · rename_i p xs ds hs r
    exact ⟨p, rfl, ⟨xs, SqL.of (R1.gh _ _ hs)⟩, h1 G1 H1 (L2.Same.refl _) R1 _ (YD.list (SqL.of hs) r)⟩
  · rename_i p xs ds hs r
    exact ⟨p, rfl, ⟨xs, L2.Same.seq R1.gh hs⟩, h1 G1 H1 (L2.Same.refl _) R1 _ (YD.list hs r)⟩⟩
theorem w_tup {tg : Expr} (ha : PE X a (tU rc en W fa)) : PI X tg a (tI rc en W (iT fa)) := (pi_tup ha).imp fun σ H R' ⟨G, st, R, h⟩ => ⟨G, st, R, (Ends3.bind h).imp fun d st1 G1 H1 s1 R1 h1 v rv => by
  cases rv <;> first | exact h1.elim | skip
  rename_i p xs ds hs r
  exact ⟨p, rfl, ⟨xs, Same.seqT R1.gh hs⟩, h1 G1 H1 (L2.Same.refl _) R1 _ (YD.tuple hs r)⟩⟩
/-- range(..) -/
def okR (i : Int) : Bool := Nat.blt i.natAbs (2 ^ 62)
def rangeD (lo hi : Int) : List D := (List.range (hi - lo).toNat).map fun i => D.int (lo + (i : Nat))
def iR1 (fl : DA) : DA := fun st => (fl st).bind fun ds st' => match ds with
  | [.int j] => if okR j = true then .ok (rangeD 0 j) st' else .stuck
  | _ => .stuck
def iR2 (fl : DA) : DA := fun st => (fl st).bind fun ds st' => match ds with
  | [.int i, .int j] => if okR i = true ∧ okR j = true then .ok (rangeD i j) st' else .stuck
  | _ => .stuck
theorem okR_of {i : Int} (h : okR i = true) : -(2 ^ 62) ≤ i ∧ i < 2 ^ 62 := by
  have h' : i.natAbs < 2 ^ 62 := by
    unfold okR at h
    rw [Nat.blt_eq] at h
    exact h
  omega
theorem w_range1 {tg : Expr} {fl : DA} {p : Pos} (hm : X.mg "range" = none) (ha : PA X [a] (tL rc en W fl)) (hg : Gl X "range" := by rfl) (hs : starEach [a] X.env = [(false, eval a X.env)] := by rfl) : PI X tg (.Call (.Name "range" p) [a] [] pos) (tI rc en W (iR1 fl)) := (pi_range1 hg hm ha hs).imp fun σ H R' ⟨G, st, R, h⟩ => ⟨G, st, R, (Ends3.bind h).imp fun ds st1 G1 H1 s1 R1 h1 vs rvs => by
  split at h1
  · rename_i j
    by_cases z : okR j = true
    · rw [if_pos z] at h1
      cases rvs with
      | cons r1 r2 =>
        cases r2
        cases r1
        obtain ⟨z1, z2⟩ := okR_of z
        refine ⟨j, rfl, z1, z2, h1 G1 H1 (L2.Same.refl _) R1 _ ?_⟩
        have q := YD.range (rc := rc) (Gb := G1) (lo := 0) (n := j.toNat)
        unfold rangeD
        rw [Int.sub_zero]
        exact q
    · rw [if_neg z] at h1; exact h1.elim
  · exact h1.elim⟩
theorem w_range2 {tg : Expr} {fl : DA} {p : Pos} (hm : X.mg "range" = none) (ha : PA X [a, b] (tL rc en W fl)) (hg : Gl X "range" := by rfl) (hs : starEach [a, b] X.env = [(false, eval a X.env), (false, eval b X.env)] := by rfl) (hs2 : starEach [b] X.env = [(false, eval b X.env)] := by rfl) : PI X tg (.Call (.Name "range" p) [a, b] [] pos) (tI rc en W (iR2 fl)) := (pi_range2 hg hm ha hs hs2).imp fun σ H R' ⟨G, st, R, h⟩ => ⟨G, st, R, (Ends3.bind h).imp fun ds st1 G1 H1 s1 R1 h1 vs rvs => by
  split at h1
  · rename_i i j
    by_cases z : okR i = true ∧ okR j = true
    · rw [if_pos z] at h1
      cases rvs with
      | cons r1 r2 =>
        cases r2 with
        | cons r2 r3 =>
          cases r3
          cases r1
          cases r2
          obtain ⟨z1, z2⟩ := okR_of z.1
          obtain ⟨z3, z4⟩ := okR_of z.2
          exact ⟨i, j, rfl, ⟨z1, z2, z3, z4⟩, h1 G1 H1 (L2.Same.refl _) R1 _ YD.range⟩
    · rw [if_neg z] at h1; exact h1.elim
  · exact h1.elim⟩
/-! ### for -/
def sFor' (t : TgD) (F : DS) : List D → DS
  | [], st => .nx st
  | x :: xs, st => match t x st with
    | none => .stuck
    | some st1 => match F st1 with
      | .nx st2 => sFor' t F xs st2
      | .ct st2 => sFor' t F xs st2
      | .bk st2 => .nx st2
      | r => r
def sFor (fi : DA) (t : TgD) (F : DS) : DS := fun st => (fi st).toS fun items st' => sFor' t F items st'
theorem q_for {tg iter : Expr} {fi : DA} {t : TgD} {ts : List Nat} (hp : PassesOwn (model X.prog X.w) X.A X.env X.xe) (hc : X.calm = true) (hi : PI X tg iter (tI rc en W fi)) (hg : PG X tg (tGt rc en t ts)) (hb : PSs X body (tS rc en W F))
    (hs : ∀ x, foldedSetIterable iter X.env x = pure x := by intro _; rfl) : PS X (.For tg iter body [] pos) (tS rc en W (sFor fi t F)) := (ps_for hp hc hi hg hb hs).imp fun Dn σ H ⟨G, st, R, h⟩ => ⟨G, st, R, (EndS.of h).imp fun items st1 G1 H1 s1 R1 h1 J yd => by
  obtain ⟨Gd, Y, wk, hGd, hY⟩ := yd
  refine for_it wk (fun i σ H => i ≤ items.length ∧ ∃ G st, SR rc en G H σ st ∧ Same G1 G ∧ EndS rc en W G (sFor' t F (items.drop i) st) Dn) ⟨Nat.zero_le _, G1, st1, R1, L2.Same.refl _, h1⟩ (fun i σ H hi ⟨_, G, st, R, s, _⟩ => hGd G H s R.gh) (fun i x σ H H' hi ⟨_, G, st, R, s, h⟩ y => ?_) (fun σ H ⟨_, G, st, R, s, h⟩ => ?_)
  · obtain ⟨d, hd, G', gr, rx⟩ := hY i G H x H' hi s R.gh y
    have R' := R.grow gr
    have hdrop : items.drop i = d :: items.drop (i + 1) := by
      have hl : i < items.length := hi
      rw [List.drop_eq_getElem_cons hl]
      congr 1
      rw [List.getElem?_eq_getElem hl] at hd
      exact Option.some.inj hd
    rw [hdrop] at h
    unfold sFor' at h
    cases q : t d st with
    | none => rw [q] at h; exact h.elim
    | some st2 =>
      rw [q] at h
      refine ⟨G', st, d, st2, R', rx, q, fun σ2 R2 _ _ => ⟨G', st2, R2, ?_⟩⟩
      replace h := EndS.up gr.g h
      dsimp only at h
      have s' : Same G1 G' := s.trans gr.g
      cases q2 : F st2 with
      | nx st3 => rw [q2] at h; exact fun σ3 G3 H3 s3 R3 => ⟨hi, G3, st3, R3, s'.trans s3, EndS.up s3 h⟩
      | ct st3 => rw [q2] at h; exact fun σ3 G3 H3 s3 R3 => ⟨hi, G3, st3, R3, s'.trans s3, EndS.up s3 h⟩
      | bk st3 => rw [q2] at h; exact h
      | rt d st3 => rw [q2] at h; exact h
      | rf d st3 => rw [q2] at h; exact h
      | exc x st3 => rw [q2] at h; exact h
      | stuck => rw [q2] at h; exact h
  · rw [List.drop_length] at h
    exact h σ G H (L2.Same.refl _) R⟩
end
end U
set_option maxRecDepth 100000
set_option maxHeartbeats 2000000
/-! PL7: what a def does over plain data, and calls of defs. -/
namespace U
open PySem PySem.Spec PyProof.Rows L2
inductive Arg where
  | p (d : D)
  | c (d : D)
inductive FR where
  | ok (d : D) (outs : List D)
  | okf (d : D) (outs : List D)
  | exc (x : XD)
  | stuck
abbrev Fn := List Arg → FR
section
variable {K : PySem.W.Frag} (rc : RC K)
inductive ArgsR (G H : Hp) : List V → List Arg → List Addr → Prop
  | nil : ArgsR G H [] [] []
  | p {v : V} {d : D} {vs : List V} {as : List Arg} {ps : List Addr} : Rep rc G v d → ArgsR G H vs as ps → ArgsR G H (v :: vs) (.p d :: as) ps
  | c {q : Addr} {d : D} {vs : List V} {as : List Arg} {ps : List Addr} : G q = none → CellRep rc G H q d → q ∉ ps → ArgsR G H vs as ps → ArgsR G H (.ref q :: vs) (.c d :: as) (q :: ps)
inductive CellsR (G H : Hp) : List Addr → List D → Prop
  | nil : CellsR G H [] []
  | cons {q : Addr} {d : D} {ps : List Addr} {ds : List D} : CellRep rc G H q d → CellsR G H ps ds → CellsR G H (q :: ps) (d :: ds)
/-- behind a call that was lent ps -/
structure After (G H : Hp) (ps : List Addr) (G' H' : Hp) : Prop where
  g : Same G G'
  gh : Same G' H'
  h : ∀ a o, a ∉ ps → H a = some o → H' a = some o
  fr : ∀ a, H a ≠ none → G a = none → G' a = none
  live : ∀ p ∈ ps, H' p ≠ none
/-- the promise of a def -/
def spU (sem : Fn) : Sp := fun vs H Q E => ∃ G as ps, Same G H ∧ ArgsR rc G H vs as ps ∧ match sem as with
  | .ok d outs => ∀ v G' H', After G H ps G' H' → CellsR rc G' H' ps outs → Rep rc G' v d → Q v H'
  | .okf d outs => ∀ p G' H', After G H ps G' H' → CellsR rc G' H' ps outs → H p = none → G' p = none → CellRep rc G' H' p d → Q (.ref p) H'
  | .exc x => ∀ cls dd G' H', After G H ps G' H' → XRep rc G' H' cls dd x → E cls dd H'
  | .stuck => False
end
/-! ### the entry -/
def initA : Nat → List Arg → List Slot
  | _, [] => []
  | k, .p d :: r => .pure d :: initA k r
  | k, .c d :: r => .io k d :: initA (k + 1) r
def nCells : List Arg → Nat
  | [] => 0
  | .p _ :: r => nCells r
  | .c _ :: r => nCells r + 1
def outs1 (k : Nat) : List Slot → Option D
  | [] => none
  | .io j d :: r => if j = k then some d else outs1 k r
  | _ :: r => outs1 k r
def outsN : Nat → Nat → List Slot → Option (List D)
  | _, 0, _ => some []
  | k, m + 1, st => match outs1 k st, outsN (k + 1) m st with
    | some d, some ds => some (d :: ds)
    | _, _ => none
/-- a def: n names, its body -/
def runF (n : Nat) (F : DS) : Fn := fun as => match F (initA 0 as ++ List.replicate (n - as.length) .un) with
  | .nx st => match outsN 0 (nCells as) st with
    | some os => .ok .non os
    | none => .stuck
  | .rt d st => match outsN 0 (nCells as) st with
    | some os => .ok d os
    | none => .stuck
  | .rf d st => match outsN 0 (nCells as) st with
    | some os => .okf d os
    | none => .stuck
  | .exc x _ => .exc x
  | _ => .stuck
section
variable {K : PySem.W.Frag} {rc : RC K} {G H : Hp}
theorem ArgsR.len {vs : List V} {as : List Arg} {ps : List Addr} (r : ArgsR rc G H vs as ps) : vs.length = as.length ∧ ps.length = nCells as := by
  induction r with
  | nil => exact ⟨rfl, rfl⟩
  | p _ _ ih => exact ⟨congrArg (· + 1) ih.1, ih.2⟩
  | c _ _ _ _ ih => exact ⟨congrArg (· + 1) ih.1, congrArg (· + 1) ih.2⟩
theorem ArgsR.ps {vs : List V} {as : List Arg} {ps : List Addr} (r : ArgsR rc G H vs as ps) : ps.Nodup ∧ ∀ p ∈ ps, H p ≠ none ∧ G p = none := by
  induction r with
  | nil => exact ⟨List.nodup_nil, fun p h => by cases h⟩
  | p _ _ ih => exact ih
  | c g cr n _ ih =>
    refine ⟨List.nodup_cons.mpr ⟨n, ih.1⟩, fun p h => ?_⟩
    rcases List.mem_cons.mp h with rfl | h
    · obtain ⟨o, e, _⟩ := cr.ex
      exact ⟨by rw [e]; simp, g⟩
    · exact ih.2 p h
theorem initA_len (k : Nat) : ∀ as : List Arg, (initA k as).length = as.length
  | [] => rfl
  | .p _ :: r => congrArg (· + 1) (initA_len k r)
  | .c _ :: r => congrArg (· + 1) (initA_len (k + 1) r)
/-- the slots at the entry -/
theorem ArgsR.slots {en : En} {vs : List V} {as : List Arg} {ps : List Addr} (r : ArgsR rc G H vs as ps) : ∀ (k : Nat), (∀ j p, ps[j]? = some p → en.io[k + j]? = some p) →
    ∀ (i : Nat) (v : V) (s : Slot), vs[i]? = some v → (initA k as)[i]? = some s → SlotR rc en G H (some v) s := by
  induction r with
  | nil => intro k hk i v s e; simp at e
  | @p v d vs as ps h r ih =>
    intro k hk i w s e q
    cases i with
    | zero => simp at e; simp [initA] at q; subst e; subst q; exact ⟨_, rfl, h⟩
    | succ i => exact ih k hk i w s (by simpa using e) (by simpa [initA] using q)
  | @c q d vs as ps g cr n r ih =>
    intro k hk i w s e q'
    cases i with
    | zero =>
      simp at e; simp [initA] at q'; subst e; subst q'
      exact ⟨q, rfl, by simpa using hk 0 q rfl, cr⟩
    | succ i => exact ih (k + 1) (fun j p hj => by have := hk (j + 1) p (by simpa using hj); rwa [show k + 1 + j = k + (j + 1) by omega]) i w s (by simpa using e) (by simpa [initA] using q')
theorem ArgsR.sepS {vs : List V} {as : List Arg} {ps : List Addr} (r : ArgsR rc G H vs as ps) : ∀ (k i : Nat) (p : Addr) (s : Slot), vs[i]? = some (.ref p) → (initA k as)[i]? = some s → s.isCell = true → p ∈ ps := by
  induction r with
  | nil => intro k i p s e; simp at e
  | @p v d vs as ps h r ih =>
    intro k i p s e q c
    cases i with
    | zero => simp [initA] at q; subst q; cases c
    | succ i => exact ih k i p s (by simpa using e) (by simpa [initA] using q) c
  | @c q d vs as ps g cr n r ih =>
    intro k i p s e q' c
    cases i with
    | zero => simp at e; subst e; exact List.mem_cons_self
    | succ i => exact List.mem_cons_of_mem _ (ih (k + 1) i p s (by simpa using e) (by simpa [initA] using q') c)
theorem ArgsR.sep {vs : List V} {as : List Arg} {ps : List Addr} (r : ArgsR rc G H vs as ps) : ∀ (k i j : Nat) (p : Addr) (a b : Slot), i ≠ j → vs[i]? = some (.ref p) → (initA k as)[i]? = some a → a.isCell = true → vs[j]? = some (.ref p) → (initA k as)[j]? = some b → b.isCell = true → False := by
  induction r with
  | nil => intro k i j p a b _ e; simp at e
  | @p v d vs as ps h r ih =>
    intro k i j p a b ne e1 q1 c1 e2 q2 c2
    cases i with
    | zero => simp [initA] at q1; subst q1; cases c1
    | succ i =>
      cases j with
      | zero => simp [initA] at q2; subst q2; cases c2
      | succ j => exact ih k i j p a b (by omega) (by simpa using e1) (by simpa [initA] using q1) c1 (by simpa using e2) (by simpa [initA] using q2) c2
  | @c q d vs as ps g cr n r ih =>
    intro k i j p a b ne e1 q1 c1 e2 q2 c2
    cases i with
    | zero =>
      cases j with
      | zero => exact ne rfl
      | succ j =>
        simp at e1; subst e1
        exact n (r.sepS (k + 1) j q b (by simpa using e2) (by simpa [initA] using q2) c2)
    | succ i =>
      cases j with
      | zero =>
        simp at e2; subst e2
        exact n (r.sepS (k + 1) i q a (by simpa using e1) (by simpa [initA] using q1) c1)
      | succ j => exact ih (k + 1) i j p a b (by omega) (by simpa using e1) (by simpa [initA] using q1) c1 (by simpa using e2) (by simpa [initA] using q2) c2
theorem SR.start {N : List Str} {vs : List V} {as : List Arg} {ps : List Addr} (hh : ∀ a c d fs, rc.hx = some (a, c, d, fs) → (fs = [] ∧ d = none) ∨ ∃ dd fvs, d = some dd ∧ H dd = some (.xd fvs) ∧ RepF rc G fvs fs) (gh : Same G H) (r : ArgsR rc G H vs as ps) (hl : as.length ≤ N.length) :
    SR rc ⟨G, H, ps, fun _ => none⟩ G H (L2.start N vs) (initA 0 as ++ List.replicate (N.length - as.length) .un) where
  gh := gh
  g0 := L2.Same.refl _
  h0 := fun a o _ e => e
  fr := fun a _ n => n
  ioO := r.ps.2
  ioN := r.ps.1
  ioH := fun p h => (r.ps.2 p h).1
  hx := hh
  len := by
    unfold L2.start
    have := r.len.1
    rw [List.length_append, List.length_append, List.length_map, List.length_replicate, List.length_replicate, initA_len]
    omega
  sl := fun i o s e q => by
    by_cases hi : i < as.length
    · unfold L2.start at e
      rw [List.getElem?_append_left (by rw [List.length_map, r.len.1]; exact hi), List.getElem?_map] at e
      rw [List.getElem?_append_left (by rw [initA_len]; exact hi)] at q
      cases z : vs[i]? with
      | none => rw [z] at e; cases e
      | some v =>
        rw [z] at e; cases e
        exact r.slots (en := ⟨G, H, ps, fun _ => none⟩) 0 (fun j p hj => by simpa using hj) i v s z q
    · rw [List.getElem?_append_right (by rw [initA_len]; omega), List.getElem?_replicate] at q
      split at q
      · cases q; trivial
      · cases q
  kp := fun a o e => by cases e
  sep := fun i j p a b ne e1 q1 c1 e2 q2 c2 => by
    have low : ∀ {i : Nat} {s : Slot}, (initA 0 as ++ List.replicate (N.length - as.length) Slot.un)[i]? = some s → s.isCell = true → i < as.length ∧ (initA 0 as)[i]? = some s := fun {i s} q c => by
      by_cases hi : i < as.length
      · rw [List.getElem?_append_left (by rw [initA_len]; exact hi)] at q
        exact ⟨hi, q⟩
      · rw [List.getElem?_append_right (by rw [initA_len]; omega), List.getElem?_replicate] at q
        split at q
        · cases q; cases c
        · cases q
    have val : ∀ {i : Nat}, i < as.length → (L2.start N vs)[i]? = some (some (.ref p)) → vs[i]? = some (.ref p) := fun {i} hi e => by
      unfold L2.start at e
      rw [List.getElem?_append_left (by rw [List.length_map, r.len.1]; exact hi), List.getElem?_map] at e
      cases z : vs[i]? with
      | none => rw [z] at e; cases e
      | some v => rw [z] at e; cases e; rfl
    obtain ⟨h1, q1'⟩ := low q1 c1
    obtain ⟨h2, q2'⟩ := low q2 c2
    exact r.sep 0 i j p a b ne (val h1 e1) q1' c1 (val h2 e2) q2' c2
theorem outs1_mem {k : Nat} : ∀ {st : List Slot} {d : D}, outs1 k st = some d → ∃ i : Nat, st[i]? = some (Slot.io k d)
  | [], _, h => by cases h
  | s :: r, d, h => by
    have next : outs1 k r = some d → ∃ i : Nat, (s :: r)[i]? = some (Slot.io k d) := fun h => by
      obtain ⟨i, e⟩ := outs1_mem h
      exact ⟨i + 1, by simpa using e⟩
    cases s with
    | io j d' =>
      have h' : (if j = k then some d' else outs1 k r) = some d := h
      by_cases e : j = k
      · rw [if_pos e] at h'
        cases h'; subst e
        exact ⟨0, rfl⟩
      · rw [if_neg e] at h'; exact next h'
    | un => exact next h
    | pure _ => exact next h
    | fr _ => exact next h
    | cell _ => exact next h
theorem SR.outs {en : En} {σ : L2.St} {st : DSt} (R : SR rc en G H σ st) : ∀ {m k : Nat} {os : List D} {ps : List Addr}, ps.length = m → (∀ j p, ps[j]? = some p → en.io[k + j]? = some p) → outsN k m st = some os → CellsR rc G H ps os
  | 0, k, os, ps, hl, hk, h => by
    cases h
    cases ps with
    | nil => exact .nil
    | cons _ _ => cases hl
  | m + 1, k, os, ps, hl, hk, h => by
    cases ps with
    | nil => cases hl
    | cons p ps =>
      unfold outsN at h
      cases q : outs1 k st with
      | none => rw [q] at h; simp at h
      | some d =>
        cases q2 : outsN (k + 1) m st with
        | none => rw [q, q2] at h; simp at h
        | some ds =>
          rw [q, q2] at h; cases h
          obtain ⟨i, e⟩ := outs1_mem q
          obtain ⟨p', _, hp, _, cr⟩ := R.io e
          have z := hk 0 p rfl
          rw [Nat.add_zero, hp] at z
          cases z
          exact .cons cr (SR.outs R (by simpa using hl) (fun j p hj => by have := hk (j + 1) p (by simpa using hj); rwa [show k + 1 + j = k + (j + 1) by omega]) q2)
theorem SR.after {en : En} {σ : L2.St} {st : DSt} {G0 H0 : Hp} {ps : List Addr} (R : SR rc ⟨G0, H0, ps, fun _ => none⟩ G H σ st) : After G0 H0 ps G H :=
  ⟨R.g0, R.gh, R.h0, R.fr, R.ioH⟩
end
section
variable {P : Program} {w : World} {K : PySem.W.Frag} {mg : Str → Option Value} {base : Heap} {rc : RC K}
/-- a def by its body -/
theorem fnU {x qual : Str} {params : Arguments} {body : List Stmt} {scope : Scope} {dvs : List V} {kws : List (Str × V)} {f : Addr} {fd : FuncData} {N ps : List Str} {k : Nat} {F : DS} (hh : rc.hx = none) (Fd : FunD K x qual params body scope dvs kws f fd) (S : FnScope N ps scope)
    (hbody : ∀ (cdv : Value) (A : Around) (outer : List Env) (s : Shared) (H : Hp) (E : XK) (en : En) (W : WX), Room k (A.deeper (envOfC qual scope s.heap.objs.size f cdv)) → L2N.Takes (cxOf (L2N.CX P w) P w K mg base N qual scope f cdv A outer s H E) W →
      PSs (cxOf (L2N.CX P w) P w K mg base N qual scope f cdv A outer s H E) body (tS rc en W F)) :
    FnOk P w K mg base (L2N.CX P w) (k + 1) f fd ps (fun vs H Q E => vs.length = ps.length ∧ spU rc (runF N.length F) vs H Q E) := by
  refine Fd.ok S (fun vs H Q E h => h.1) (fun cdv A outer s H vs Q E hr h => ?_)
  obtain ⟨hl, G, as, ios, gh, r, h⟩ := h
  refine ⟨_, hbody cdv A outer s H E ⟨G, H, ios, fun _ => none⟩ (fun cls d _ H => E cls d H) hr (L2N.takes_of rfl rfl rfl rfl), ?_⟩
  have hpl : ps.length ≤ N.length := by have := congrArg List.length S.pre; rw [List.length_take] at this; omega
  have hal : as.length ≤ N.length := by rw [← r.len.1, hl]; exact hpl
  refine ⟨G, _, SR.start (fun a c d fs e => by rw [hh] at e; cases e) gh r hal, ?_⟩
  unfold runF at h
  cases q : F (initA 0 as ++ List.replicate (N.length - as.length) Slot.un) with
  | nx st =>
    rw [q] at h
    dsimp only at h
    cases q2 : outsN 0 (nCells as) st with
    | none => rw [q2] at h; exact h.elim
    | some os =>
      rw [q2] at h
      exact fun σ' G' H' s R => h .non G' H' (SR.after (en := ⟨G, H, ios, fun _ => none⟩) R) (R.outs (k := 0) r.len.2 (fun j p hj => by simpa using hj) q2) .non
  | rt d st =>
    rw [q] at h
    dsimp only at h
    cases q2 : outsN 0 (nCells as) st with
    | none => rw [q2] at h; exact h.elim
    | some os =>
      rw [q2] at h
      exact fun v σ' G' H' s R rv => h v G' H' (SR.after (en := ⟨G, H, ios, fun _ => none⟩) R) (R.outs (k := 0) r.len.2 (fun j p hj => by simpa using hj) q2) rv
  | rf d st =>
    rw [q] at h
    dsimp only at h
    cases q2 : outsN 0 (nCells as) st with
    | none => rw [q2] at h; exact h.elim
    | some os =>
      rw [q2] at h
      exact fun p σ' G' H' s R gp h0 cr => h p G' H' (SR.after (en := ⟨G, H, ios, fun _ => none⟩) R) (R.outs (k := 0) r.len.2 (fun j p hj => by simpa using hj) q2) h0 gp cr
  | exc x st =>
    rw [q] at h
    exact fun cls dd σ' G' H' s R X => h cls dd G' H' (SR.after (en := ⟨G, H, ios, fun _ => none⟩) R) X
  | bk st => rw [q] at h; exact h.elim
  | ct st => rw [q] at h; exact h.elim
  | stuck => rw [q] at h; exact h.elim
end
/-! ### calls -/
/-- an argument: an expression; a name whose object is lent -/
inductive LV where
  | v (d : D)
  | s (i : Nat)
abbrev DAs := DSt → DR (List LV)
inductive LR {K : PySem.W.Frag} (rc : RC K) (G : Hp) (σ : L2.St) : List V → List LV → Prop
  | nil : LR rc G σ [] []
  | v {v : V} {d : D} {vs : List V} {ls : List LV} : Rep rc G v d → LR rc G σ vs ls → LR rc G σ (v :: vs) (.v d :: ls)
  | s {v : V} {i : Nat} {vs : List V} {ls : List LV} : σ[i]? = some (some v) → LR rc G σ vs ls → LR rc G σ (v :: vs) (.s i :: ls)
theorem LR.mono {K : PySem.W.Frag} {rc : RC K} {G G' : Hp} {σ : L2.St} (s : Same G G') {vs : List V} {ls : List LV} (r : LR rc G σ vs ls) : LR rc G' σ vs ls := by
  induction r with
  | nil => exact .nil
  | v h _ ih => exact .v (h.mono s) ih
  | s h _ ih => exact .s h ih
def tLv {K : PySem.W.Frag} (rc : RC K) (en : En) (W : WX) (f : DAs) : TA := fun σ H Q => ∃ G st, SR rc en G H σ st ∧ Ends3 rc en W σ (f st) G fun ls _ G' H' => ∀ vs, LR rc G' σ vs ls → Q vs H'
def aNil : DAs := fun st => .ok [] st
def aV (fa : DE) (fl : DAs) : DAs := fun st => (fa st).bind fun d st1 => (fl st1).bind fun ls st2 => .ok (.v d :: ls) st2
def aS (i : Nat) (fl : DAs) : DAs := fun st => match (st[i]?).bind Slot.see with
  | some _ => (fl st).bind fun ls st2 => .ok (.s i :: ls) st2
  | none => .stuck
/-- the arguments as they are handed, the slots lent -/
def mkArgs : List LV → DSt → Option (List Arg × List Nat)
  | [], _ => some ([], [])
  | .v d :: r, st => (mkArgs r st).map fun q => (.p d :: q.1, q.2)
  | .s i :: r, st => match st[i]? with
    | some (.pure d) => (mkArgs r st).map fun q => (.p d :: q.1, q.2)
    | some (.fr d) => (mkArgs r st).map fun q => (.p d :: q.1, q.2)
    | some (.cell d) => (mkArgs r st).bind fun q => if i ∈ q.2 then none else some (.c d :: q.1, i :: q.2)
    | some (.io _ d) => (mkArgs r st).bind fun q => if i ∈ q.2 then none else some (.c d :: q.1, i :: q.2)
    | _ => none
def unAll : List Nat → DSt → DSt
  | [], st => st
  | i :: r, st => (unAll r st).set i .un
/-- what comes back of what was lent: st0 tells the slots' kinds -/
def wback (st0 : DSt) : List Nat → List D → DSt → Option DSt
  | [], [], st => some st
  | i :: is, d :: ds, st => (st0[i]?).bind fun s => (wback st0 is ds st).map fun st' => st'.set i (s.put d)
  | _, _, _ => none
/-- f(..) -/
def dCallU (sem : Fn) (fl : DAs) : DE := fun st => (fl st).bind fun ls st1 => match mkArgs ls st1 with
  | some (as, is) => (match sem as with
    | .ok d outs => (match wback st1 is outs (unAll is st1) with
      | some st2 => .ok d st2
      | none => .stuck)
    | .exc x => .exc x (unAll is st1)
    | _ => .stuck)
  | none => .stuck
def dCallF (sem : Fn) (fl : DAs) : DE := fun st => (fl st).bind fun ls st1 => match mkArgs ls st1 with
  | some (as, is) => (match sem as with
    | .okf d outs => (match wback st1 is outs (unAll is st1) with
      | some st2 => .ok d st2
      | none => .stuck)
    | .exc x => .exc x (unAll is st1)
    | _ => .stuck)
  | none => .stuck
section
variable {K : PySem.W.Frag} {rc : RC K} {en : En} {G H G' H' : Hp} {σ : L2.St} {st : DSt}
theorem unAll_len : ∀ is : List Nat, (unAll is st).length = st.length
  | [] => rfl
  | i :: r => by unfold unAll; rw [List.length_set]; exact unAll_len r
theorem unAll_get : ∀ {is : List Nat} {j : Nat} {s : Slot}, (unAll is st)[j]? = some s → s = .un ∨ (j ∉ is ∧ st[j]? = some s)
  | [], j, s, h => .inr ⟨by simp, h⟩
  | i :: r, j, s, h => by
    unfold unAll at h
    rcases get_set_cases h with ⟨rfl, rfl⟩ | ⟨ne, h'⟩
    · exact .inl rfl
    · rcases unAll_get h' with e | ⟨n, e⟩
      · exact .inl e
      · exact .inr ⟨by rw [List.mem_cons]; exact fun z => z.elim (fun z => ne z.symm) n, e⟩
/-- the slots lent and their addresses -/
inductive Lent (σ : L2.St) (st : DSt) : List Nat → List Addr → Prop
  | nil : Lent σ st [] []
  | cons {i : Nat} {p : Addr} {s : Slot} {is : List Nat} {ps : List Addr} : σ[i]? = some (some (.ref p)) → st[i]? = some s → s.isCell = true → i ∉ is → Lent σ st is ps → Lent σ st (i :: is) (p :: ps)
theorem Lent.mem {is : List Nat} {ps : List Addr} (l : Lent σ st is ps) {p : Addr} (h : p ∈ ps) : ∃ i s, i ∈ is ∧ σ[i]? = some (some (.ref p)) ∧ st[i]? = some s ∧ s.isCell = true := by
  induction l with
  | nil => cases h
  | cons e q c n _ ih =>
    rcases List.mem_cons.mp h with rfl | h
    · exact ⟨_, _, List.mem_cons_self, e, q, c⟩
    · obtain ⟨i, s, h1, h2⟩ := ih h
      exact ⟨i, s, List.mem_cons_of_mem _ h1, h2⟩
theorem SR.args (R : SR rc en G H σ st) : ∀ {ls : List LV} {vs : List V} {as : List Arg} {is : List Nat}, LR rc G σ vs ls → mkArgs ls st = some (as, is) → ∃ ps, ArgsR rc G H vs as ps ∧ Lent σ st is ps
  | _, _, _, _, .nil, h => by cases h; exact ⟨[], .nil, .nil⟩
  | _, _, as, is, .v (ls := ls) hv r, h => by
    unfold mkArgs at h
    cases q : mkArgs ls st with
    | none => rw [q] at h; cases h
    | some z =>
      rw [q] at h; cases h
      obtain ⟨ps, a, l⟩ := SR.args R r (as := z.1) (is := z.2) q
      exact ⟨ps, .p hv a, l⟩
  | _, _, as, is, .s (v := vv) (i := i) (vs := vvs) (ls := ls) hv r, h => by
    unfold mkArgs at h
    cases q0 : st[i]? with
    | none => rw [q0] at h; cases h
    | some s =>
      rw [q0] at h
      have go : ∀ d, s.got = some d → ((mkArgs ls st).bind fun q => if i ∈ q.2 then none else some (Arg.c d :: q.1, i :: q.2)) = some (as, is) → ∃ ps, ArgsR rc G H (vv :: vvs) as ps ∧ Lent σ st is ps := fun d hg h => by
        cases q : mkArgs ls st with
        | none => rw [q] at h; cases h
        | some z =>
          rw [q] at h
          obtain ⟨ps, a, l⟩ := SR.args R r (as := z.1) (is := z.2) q
          obtain ⟨p, hp, gp, cr⟩ := R.got q0 hg
          rw [hv] at hp; cases hp
          have h' : (if i ∈ z.2 then none else some (Arg.c d :: z.1, i :: z.2)) = some (as, is) := h
          by_cases m : i ∈ z.2
          · rw [if_pos m] at h'; cases h'
          · rw [if_neg m] at h'; cases h'
            refine ⟨p :: ps, .c gp cr (fun hm => ?_) a, .cons hv q0 (Slot.got_isCell hg) m l⟩
            obtain ⟨j, sj, hj, e1, e2, e3⟩ := l.mem hm
            exact R.sep i j p s sj (fun z => m (by rw [z]; exact hj)) hv q0 (Slot.got_isCell hg) e1 e2 e3
      cases s with
      | un => cases h
      | pure d =>
        obtain ⟨v', hv', rv⟩ := R.pure q0
        rw [hv] at hv'; cases hv'
        have h' : (mkArgs ls st).map (fun q => (Arg.p d :: q.1, q.2)) = some (as, is) := h
        cases q : mkArgs ls st with
        | none => rw [q] at h'; cases h'
        | some z =>
          rw [q] at h'; cases h'
          obtain ⟨ps, a, l⟩ := SR.args R r (as := z.1) (is := z.2) q
          exact ⟨ps, .p rv a, l⟩
      | fr d =>
        obtain ⟨v', hv', rv, _⟩ := R.frd q0
        rw [hv] at hv'; cases hv'
        have h' : (mkArgs ls st).map (fun q => (Arg.p d :: q.1, q.2)) = some (as, is) := h
        cases q : mkArgs ls st with
        | none => rw [q] at h'; cases h'
        | some z =>
          rw [q] at h'; cases h'
          obtain ⟨ps, a, l⟩ := SR.args R r (as := z.1) (is := z.2) q
          exact ⟨ps, .p rv a, l⟩
      | cell d => exact go d rfl h
      | io k d => exact go d rfl h
/-- behind a call, nothing known of what was lent -/
theorem SR.unlent (R : SR rc en G H σ st) {is : List Nat} {ps : List Addr} (l : Lent σ st is ps) (a : After G H ps G' H') : SR rc en G' H' σ (unAll is st) := by
  have own : ∀ p ∈ ps, en.H0 p = none ∨ p ∈ en.io := fun p hp => by
    obtain ⟨i, s, _, e1, e2, e3⟩ := l.mem hp
    cases s with
    | un => cases e3
    | pure _ => cases e3
    | fr _ => cases e3
    | cell d =>
      obtain ⟨q, e', _, h0, _⟩ := R.cell e2
      rw [e1] at e'; cases e'
      exact .inl h0
    | io k d =>
      obtain ⟨q, e', hk, _, _⟩ := R.io e2
      rw [e1] at e'; cases e'
      exact .inr (List.mem_of_getElem? hk)
  have notx : ∀ p ∈ ps, ∀ fs, H p ≠ some (.xd fs) := fun p hp fs z => by
    obtain ⟨i, s, _, e1, e2, e3⟩ := l.mem hp
    obtain ⟨_, o, ho, nx⟩ := R.ownG e1 e2 e3
    rw [ho] at z
    exact nx fs (Option.some.inj z)
  have other : ∀ {j : Nat} {p : Addr} {s : Slot}, σ[j]? = some (some (.ref p)) → st[j]? = some s → s.isCell = true → j ∉ is → p ∉ ps := fun {j p s} e q c n hp => by
    obtain ⟨i, s', hi, e1, e2, e3⟩ := l.mem hp
    exact R.sep i j p s' s (fun z => n (by rw [← z]; exact hi)) e1 e2 e3 e q c
  refine ⟨a.gh, R.g0.trans a.g, fun b o n e => ?_, fun b hb n => ?_, R.ioO, R.ioN, fun p hp => ?_, fun b c d fs e => ?_, by rw [unAll_len]; exact R.len, fun j o s e q => ?_, fun b u q => ?_, fun i j p sa sb ne e1 q1 c1 e2 q2 c2 => ?_⟩
  · have z := R.h0 b o n e
    refine a.h b o (fun hp => ?_) z
    rcases own b hp with h | h
    · rw [e] at h; cases h
    · exact n h
  · exact a.fr b (R.live hb) (R.fr b hb n)
  · by_cases hm : p ∈ ps
    · exact a.live p hm
    · cases z : H p with
      | none => exact absurd z (R.ioH p hp)
      | some o => rw [a.h p o hm z]; simp
  · rcases R.hx b c d fs e with h1 | ⟨dd, fvs, h1, h2, h3⟩
    · exact .inl h1
    · exact .inr ⟨dd, fvs, h1, a.h dd _ (fun hp => notx dd hp fvs h2) h2, h3.mono a.g⟩
  · rcases unAll_get q with rfl | ⟨n, q'⟩
    · trivial
    · have z := R.sl j o s e q'
      cases s with
      | un => trivial
      | pure d => obtain ⟨v, h1, h2⟩ := z; exact ⟨v, h1, h2.mono a.g⟩
      | fr d => obtain ⟨v, h1, h2, h3⟩ := z; exact ⟨v, h1, h2.mono a.g, h3.mono a.g⟩
      | cell d =>
        obtain ⟨p, h1, h2, h3, h4⟩ := z
        subst h1
        obtain ⟨ob, ho, _⟩ := h4.ex
        have np := other e q' rfl n
        exact ⟨p, rfl, a.fr p (by rw [ho]; simp) h2, h3, h4.to a.g ((a.h p ob np ho).trans ho.symm)⟩
      | io k d =>
        obtain ⟨p, h1, h2, h4⟩ := z
        subst h1
        obtain ⟨ob, ho, _⟩ := h4.ex
        have np := other e q' rfl n
        exact ⟨p, rfl, h2, h4.to a.g ((a.h p ob np ho).trans ho.symm)⟩
  · obtain ⟨h1, h2, h3⟩ := R.kp b u q
    have nb : b ∉ ps := fun hp => by
      obtain ⟨i, s, _, e1, e2, e3⟩ := l.mem hp
      have := h3 i s e1 e2
      rw [e3] at this; cases this
    refine ⟨a.h b u nb h1, a.fr b (by rw [h1]; simp) h2, fun j sj ej qj => ?_⟩
    rcases unAll_get qj with rfl | ⟨_, q'⟩
    · rfl
    · exact h3 j sj ej q'
  · rcases unAll_get q1 with rfl | ⟨_, q1'⟩
    · cases c1
    rcases unAll_get q2 with rfl | ⟨_, q2'⟩
    · cases c2
    exact R.sep i j p sa sb ne e1 q1' c1 e2 q2' c2
/-- one that was lent is back -/
theorem SR.relent (R : SR rc en G H σ st) {i : Nat} {p : Addr} {s s' : Slot} {d : D} (e : σ[i]? = some (some (.ref p))) (hs : SlotR rc en G H (some (.ref p)) (s.put d)) (off : ∀ (j : Nat) (sj : Slot), j ≠ i → σ[j]? = some (some (.ref p)) → st[j]? = some sj → sj.isCell = false) (nk : en.kept p = none) : SR rc en G H σ (st.set i (s.put d)) := by
  refine ⟨R.gh, R.g0, R.h0, R.fr, R.ioO, R.ioN, R.ioH, R.hx, by rw [List.length_set]; exact R.len, fun j o s e' q => ?_, fun a u q => ?_, fun a b q sa sb ne e1 q1 c1 e2 q2 c2 => ?_⟩
  · rcases get_set_cases q with ⟨rfl, rfl⟩ | ⟨_, q'⟩
    · rw [e] at e'; cases e'; exact hs
    · exact R.sl j o s e' q'
  · obtain ⟨h1, h2, h3⟩ := R.kp a u q
    refine ⟨h1, h2, fun j sj ej qj => ?_⟩
    rcases get_set_cases qj with ⟨rfl, _⟩ | ⟨_, q'⟩
    · rw [e] at ej
      have z := V.ref.inj (Option.some.inj (Option.some.inj ej))
      rw [z, q] at nk; cases nk
    · exact h3 j sj ej q'
  · rcases get_set_cases q1 with ⟨rfl, rfl⟩ | ⟨n1, q1'⟩ <;> rcases get_set_cases q2 with ⟨rfl, rfl⟩ | ⟨n2, q2'⟩
    · exact ne rfl
    · rw [e] at e1; cases e1
      have z := off b sb (Ne.symm n2) e2 q2'
      rw [z] at c2; cases c2
    · rw [e] at e2; cases e2
      have z := off a sa (Ne.symm n1) e1 q1'
      rw [z] at c1; cases c1
    · exact R.sep a b q sa sb ne e1 q1' c1 e2 q2' c2
theorem SR.back {st0 : DSt} (R : SR rc en G H σ (unAll [] st)) (R0 : ∀ {i : Nat} {s : Slot} {p : Addr}, σ[i]? = some (some (.ref p)) → st0[i]? = some s → s.isCell = true → G p = none ∧ en.kept p = none ∧ (∀ d, CellRep rc G H p d → SlotR rc en G H (some (.ref p)) (s.put d))) (sep0 : ∀ (i j : Nat) (p : Addr) (a b : Slot), i ≠ j → σ[i]? = some (some (.ref p)) → st0[i]? = some a → a.isCell = true → σ[j]? = some (some (.ref p)) → st0[j]? = some b → b.isCell = true → False)
    (base : ∀ {j : Nat} {s : Slot}, st[j]? = some s → s.isCell = true → ∃ s', st0[j]? = some s' ∧ s'.isCell = true) : ∀ {is : List Nat} {ps : List Addr} {os : List D} {st2 : DSt}, Lent σ st0 is ps → CellsR rc G H ps os → wback st0 is os st = some st2 → SR rc en G H σ st2 ∧ ∀ {j : Nat} {s : Slot}, st2[j]? = some s → s.isCell = true → ∃ s', st0[j]? = some s' ∧ s'.isCell = true
  | _, _, _, st2, .nil, .nil, h => by cases h; exact ⟨R, base⟩
  | _, _, _, st2, .cons (i := i) (p := p) (s := s) (is := is) e q c n l, .cons (d := d) (ds := ds) cr crs, h => by
    unfold wback at h
    rw [q] at h
    have h' : (wback st0 is ds st).map (fun st' => st'.set i (s.put d)) = some st2 := h
    cases z : wback st0 is ds st with
    | none => rw [z] at h'; cases h'
    | some st3 =>
      rw [z] at h'; cases h'
      obtain ⟨R3, b3⟩ := SR.back R R0 sep0 base l crs z
      refine ⟨R3.relent (s' := s) e ((R0 e q c).2.2 d cr) (fun j sj nj ej qj => ?_) (R0 e q c).2.1, fun {j s'} hj hc => ?_⟩
      · cases cj : sj.isCell with
        | false => rfl
        | true =>
          obtain ⟨s', h1, h2⟩ := b3 qj cj
          exact (sep0 i j p s s' (Ne.symm nj) e q c ej h1 h2).elim
      · rcases get_set_cases hj with ⟨rfl, rfl⟩ | ⟨_, hj'⟩
        · exact ⟨s, q, c⟩
        · exact b3 hj' hc
/-- behind a call, all back -/
theorem SR.called (R : SR rc en G H σ st) {is : List Nat} {ps : List Addr} {os : List D} {st2 : DSt} (l : Lent σ st is ps) (a : After G H ps G' H') (cr : CellsR rc G' H' ps os) (h : wback st is os (unAll is st) = some st2) : SR rc en G' H' σ st2 ∧ ∀ {j : Nat} {s : Slot}, st2[j]? = some s → s.isCell = true → ∃ s', st[j]? = some s' ∧ s'.isCell = true := by
  have R1 := R.unlent l a
  refine SR.back (st0 := st) (st := unAll is st) R1 (fun {i s p} e q c => ?_) R.sep (fun {j s} q c => ?_) l cr h
  · have z := R.ownG e q c
    obtain ⟨o, ho, _⟩ := z.2
    have gp : G' p = none := a.fr p (by rw [ho]; simp) z.1
    refine ⟨gp, ?_, fun d cr => ?_⟩
    · cases z2 : en.kept p with
      | none => rfl
      | some u =>
        have := (R.kp p u z2).2.2 i s e q
        rw [c] at this; cases this
    cases s with
    | un => cases c
    | pure _ => cases c
    | fr _ => cases c
    | cell d0 =>
      obtain ⟨q', e', _, h0, _⟩ := R.cell q
      rw [e] at e'; cases e'
      exact ⟨p, rfl, gp, h0, cr⟩
    | io k d0 =>
      obtain ⟨q', e', hk, _, _⟩ := R.io q
      rw [e] at e'; cases e'
      exact ⟨p, rfl, hk, cr⟩
  · rcases unAll_get q with rfl | ⟨_, q'⟩
    · cases c
    · exact ⟨s, q', c⟩
/-- .. and a new object is the def's own -/
theorem SR.calledFresh (R : SR rc en G H σ st) {st2 : DSt} {p : Addr} (R2 : SR rc en G' H' σ st2) (hp : H p = none) (gp : G' p = none) (own : ∀ {j : Nat} {s : Slot}, st2[j]? = some s → s.isCell = true → ∃ s', st[j]? = some s' ∧ s'.isCell = true) : Fresh en G' σ st2 p := by
  refine ⟨gp, (Fresh.new R hp).h0, fun i s e q => ?_, (Fresh.new R hp).nk⟩
  cases c : s.isCell with
  | false => rfl
  | true =>
    obtain ⟨s', h1, h2⟩ := own q c
    have z := (Fresh.new R hp).off i s' e h1
    rw [z] at h2; cases h2
end
section
variable {X : Cx} {rc : RC X.K} {en : En} {W : WX} {e a b c : Expr} {es : List Expr} {pos : Pos} {fa fb fc : DE}
theorem al_nil : PA X [] (tLv rc en W aNil) := pa_nil.imp fun σ H Q ⟨G, st, R, h⟩ => h G H (L2.Same.refl _) R _ .nil
theorem al_v {fl : DAs} (ha : PE X a (tU rc en W fa)) (hr : PA X es (tLv rc en W fl)) (hs : starEach (a :: es) X.env = (false, eval a X.env) :: starEach es X.env := by rfl) : PA X (a :: es) (tLv rc en W (aV fa fl)) := (pa_cons ha hr hs).imp fun σ H Q ⟨G, st, R, h⟩ => ⟨G, st, R, (Ends3.bind h).imp fun d st1 G1 H1 s1 R1 h1 v rv => ⟨G1, st1, R1, (Ends3.bind h1).imp fun ds st2 G2 H2 s2 R2 h2 vs rvs => h2 _ _ (L2.Same.refl _) R2 _ (.v (rv.mono s2) rvs)⟩⟩
theorem al_s (i : Nat) {x : Str} {p : Pos} {fl : DAs} (hr : PA X es (tLv rc en W fl)) (hN : X.N[i]? = some x := by rfl) (hv : Vis X.env.scope x := by first | exact Or.inl rfl | exact Or.inr (Or.inl rfl) | exact Or.inr (Or.inr rfl)) (hs : starEach (.Name x p :: es) X.env = (false, eval (.Name x p) X.env) :: starEach es X.env := by rfl) (hd : (x == ("__debug__" : Str)) = false := by decide)
    (hcd : (x == ("__classdict__" : Str)) = false := by decide) : PA X (.Name x p :: es) (tLv rc en W (aS i fl)) := (pa_cons (pe_var hN hv hd hcd) hr hs).imp fun σ H Q ⟨G, st, R, h⟩ => by
  unfold aS at h
  cases q : (st[i]?).bind Slot.see with
  | none => rw [q] at h; exact h.elim
  | some d =>
    rw [q] at h
    obtain ⟨v, hv, _⟩ := R.see q
    exact ⟨v, hv, G, st, R, (Ends3.bind h).imp fun ls st2 G2 H2 s2 R2 h2 vs rvs => h2 _ _ (L2.Same.refl _) R2 _ (.s hv rvs)⟩
/-- what a call needs of the def -/
structure DefOk (X : Cx) (rc : RC X.K) (x : Str) (k : Nat) (n : Nat) (sem : Fn) : Prop where
  ex : ∃ f fd ps ds dvs, FnOk X.prog X.w X.K X.mg X.base (L2N.CX X.prog X.w) k f fd ps (fun vs H Q E => vs.length = ps.length ∧ spU rc sem vs H Q E) ∧ X.mg x = some (.ref f) ∧ PySem.W.keepIn X.K (.ref f) = true ∧ Binds X.K fd ps ds ∧ Vals dvs ds ∧ dvs = [] ∧ ps.length = n
theorem LR.length {K : PySem.W.Frag} {rc : RC K} {G : Hp} {σ : L2.St} {vs : List V} {ls : List LV} (r : LR rc G σ vs ls) : vs.length = ls.length := by
  induction r with
  | nil => rfl
  | v _ _ ih => exact congrArg (· + 1) ih
  | s _ _ ih => exact congrArg (· + 1) ih
def lenIs (n : Nat) (fl : DAs) : DAs := fun st => (fl st).bind fun ls st1 => if ls.length = n then .ok ls st1 else .stuck
theorem tU_called {sem : Fn} {ps : List Str} {n : Nat} {fl : DAs} {σ : L2.St} {H : Hp} {Q : VK} (hn : ps.length = n) (h : tU rc en W (dCallU sem (lenIs n fl)) σ H Q) : tLv rc en W fl σ H fun vs H1 => (vs ++ []).length = ps.length ∧ spU rc sem (vs ++ []) H1 Q (fun cls dd H' => W cls dd σ H') := by
  obtain ⟨G, st, R, h⟩ := h
  refine ⟨G, st, R, (Ends3.bind (Ends3.bind h : Ends3 rc en W σ ((fl st).bind _) G _)).imp fun ls st1 G1 H1 s1 R1 h1 vs rvs => ?_⟩
  show (vs ++ []).length = ps.length ∧ spU rc sem (vs ++ []) H1 Q _
  rw [List.append_nil]
  by_cases hl : ls.length = n
  · rw [if_pos hl] at h1
    have h2 := h1 G1 H1 (L2.Same.refl _) R1
    dsimp only at h2
    refine ⟨by rw [rvs.length, hl, hn], ?_⟩
    cases q : mkArgs ls st1 with
    | none => rw [q] at h2; exact h2.elim
    | some z =>
      obtain ⟨as, is⟩ := z
      rw [q] at h2
      dsimp only at h2
      obtain ⟨pss, ar, ln⟩ := R1.args rvs q
      refine ⟨G1, as, pss, R1.gh, ar, ?_⟩
      cases q2 : sem as with
      | ok d outs =>
        rw [q2] at h2
        (try dsimp only at h2)
        (try dsimp only)
        intro v G' H' af cr rv
        cases q3 : wback st1 is outs (unAll is st1) with
        | none => rw [q3] at h2; exact h2.elim
        | some st2 =>
          rw [q3] at h2
          exact h2 G' H' af.g (R1.called ln af cr q3).1 v rv
      | okf d outs => rw [q2] at h2; exact h2.elim
      | exc x =>
        rw [q2] at h2
        (try dsimp only at h2)
        (try dsimp only)
        intro cls dd G' H' af xr
        exact h2 cls dd G' H' af.g (R1.unlent ln af) xr
      | stuck => rw [q2] at h2; exact h2.elim
  · rw [if_neg hl] at h1; exact h1.elim
theorem tF_called {sem : Fn} {ps : List Str} {n : Nat} {fl : DAs} {σ : L2.St} {H : Hp} {Q : VK} (hn : ps.length = n) (h : tF rc en W (dCallF sem (lenIs n fl)) σ H Q) : tLv rc en W fl σ H fun vs H1 => (vs ++ []).length = ps.length ∧ spU rc sem (vs ++ []) H1 Q (fun cls dd H' => W cls dd σ H') := by
  obtain ⟨G, st, R, h⟩ := h
  refine ⟨G, st, R, (Ends3.bind (Ends3.bind h : Ends3 rc en W σ ((fl st).bind _) G _)).imp fun ls st1 G1 H1 s1 R1 h1 vs rvs => ?_⟩
  show (vs ++ []).length = ps.length ∧ spU rc sem (vs ++ []) H1 Q _
  rw [List.append_nil]
  by_cases hl : ls.length = n
  · rw [if_pos hl] at h1
    have h2 := h1 G1 H1 (L2.Same.refl _) R1
    dsimp only at h2
    refine ⟨by rw [rvs.length, hl, hn], ?_⟩
    cases q : mkArgs ls st1 with
    | none => rw [q] at h2; exact h2.elim
    | some z =>
      obtain ⟨as, is⟩ := z
      rw [q] at h2
      dsimp only at h2
      obtain ⟨pss, ar, ln⟩ := R1.args rvs q
      refine ⟨G1, as, pss, R1.gh, ar, ?_⟩
      cases q2 : sem as with
      | ok d outs => rw [q2] at h2; exact h2.elim
      | okf d outs =>
        rw [q2] at h2
        (try dsimp only at h2)
        (try dsimp only)
        intro p G' H' af cr hp gp cell
        cases q3 : wback st1 is outs (unAll is st1) with
        | none => rw [q3] at h2; exact h2.elim
        | some st2 =>
          rw [q3] at h2
          obtain ⟨R2, own⟩ := R1.called ln af cr q3
          exact h2 G' H' af.g R2 p (R1.calledFresh R2 hp gp own) cell
      | exc x =>
        rw [q2] at h2
        (try dsimp only at h2)
        (try dsimp only)
        intro cls dd G' H' af xr
        exact h2 cls dd G' H' af.g (R1.unlent ln af) xr
      | stuck => rw [q2] at h2; exact h2.elim
  · rw [if_neg hl] at h1; exact h1.elim
theorem pu_fn {x : Str} {k n : Nat} {sem : Fn} {fl : DAs} {p : Pos} (tk : L2N.Takes X W) (F : DefOk X rc x k n sem) (hr : Room k X.A) (ha : PA X (e :: es) (tLv rc en W fl)) (hg : Gl X x := by rfl) (hdb : (x == ("__debug__" : Str)) = false := by decide) (he : starEach (e :: es) X.env = (false, eval e X.env) :: starEach es X.env := by rfl) (hpl : (backTo pos (starEach es X.env)).any (·.1) = false := by rfl) :
    PE X (.Call (.Name x p) (e :: es) [] pos) (tU rc en W (dCallU sem (lenIs n fl))) := by
  obtain ⟨f, fd, ps, ds, dvs, F1, hm, hk, hb, hd, rfl, hn⟩ := F.ex
  exact (pe_callSD F1 hr hg hm hk hb hd (fun σ => L2N.passAt tk σ) ha hdb he hpl).imp fun σ H Q h => tU_called hn h
theorem pf_fn {x : Str} {k n : Nat} {sem : Fn} {fl : DAs} {p : Pos} (tk : L2N.Takes X W) (F : DefOk X rc x k n sem) (hr : Room k X.A) (ha : PA X (e :: es) (tLv rc en W fl)) (hg : Gl X x := by rfl) (hdb : (x == ("__debug__" : Str)) = false := by decide) (he : starEach (e :: es) X.env = (false, eval e X.env) :: starEach es X.env := by rfl) (hpl : (backTo pos (starEach es X.env)).any (·.1) = false := by rfl) :
    PE X (.Call (.Name x p) (e :: es) [] pos) (tF rc en W (dCallF sem (lenIs n fl))) := by
  obtain ⟨f, fd, ps, ds, dvs, F1, hm, hk, hb, hd, rfl, hn⟩ := F.ex
  exact (pe_callSD F1 hr hg hm hk hb hd (fun σ => L2N.passAt tk σ) ha hdb he hpl).imp fun σ H Q h => tF_called hn h
theorem pe_callSD0 {CX : CXT} {k : Nat} {f : Addr} {fd : FuncData} {ps : List Str} {sp : Sp} {dvs : List V} {ds : List Value} {E : L2.St → XK} {x : Str} {p : Pos} (F : FnOk X.prog X.w X.K X.mg X.base CX k f fd ps sp) (hr : Room k X.A) (hg : Gl X x) (hm : X.mg x = some (.ref f)) (hk : PySem.W.keepIn X.K (.ref f) = true) (hb : Binds X.K fd ps ds) (hd : Vals dvs ds) (hx : ∀ σ, PassesAt CX X σ (E σ))
    (hdb : (x == ("__debug__" : Str)) = false := by decide) : PE X (.Call (.Name x p) [] [] pos) (tCallSD sp dvs E tNil) := by
  refine ⟨fun pins s σ H Q I h => ?_⟩
  refine wpAny_Call_Name_kw (ld_glob I hg hm ?_ hdb)
  exact PySem.W.callWith_K0 I.kIn hk (run_fnSD (us := []) F hr hb hd (hx σ) I .nil h)
theorem tNil_lv {σ : L2.St} {H : Hp} {Q : List V → Hp → Prop} (h : tLv rc en W aNil σ H Q) : tNil σ H Q := by
  obtain ⟨G, st, R, h⟩ := h
  exact h G H (L2.Same.refl _) R _ .nil
theorem pu_fn0 {x : Str} {k : Nat} {sem : Fn} {p : Pos} (tk : L2N.Takes X W) (F : DefOk X rc x k 0 sem) (hr : Room k X.A) (hg : Gl X x := by rfl) (hdb : (x == ("__debug__" : Str)) = false := by decide) :
    PE X (.Call (.Name x p) [] [] pos) (tU rc en W (dCallU sem (lenIs 0 aNil))) := by
  obtain ⟨f, fd, ps, ds, dvs, F1, hm, hk, hb, hd, rfl, hn⟩ := F.ex
  exact (pe_callSD0 F1 hr hg hm hk hb hd (fun σ => L2N.passAt tk σ) hdb).imp fun σ H Q h => tNil_lv (tU_called hn h)
theorem pf_fn0 {x : Str} {k : Nat} {sem : Fn} {p : Pos} (tk : L2N.Takes X W) (F : DefOk X rc x k 0 sem) (hr : Room k X.A) (hg : Gl X x := by rfl) (hdb : (x == ("__debug__" : Str)) = false := by decide) :
    PE X (.Call (.Name x p) [] [] pos) (tF rc en W (dCallF sem (lenIs 0 aNil))) := by
  obtain ⟨f, fd, ps, ds, dvs, F1, hm, hk, hb, hd, rfl, hn⟩ := F.ex
  exact (pe_callSD0 F1 hr hg hm hk hb hd (fun σ => L2N.passAt tk σ) hdb).imp fun σ H Q h => tNil_lv (tF_called hn h)
end
end U
set_option maxRecDepth 100000
set_option maxHeartbeats 2000000
/-! PL8: list comprehensions. -/
namespace U
open PySem PySem.Spec PyProof.Rows L2
abbrev WF : WX := fun _ _ _ _ => False
theorem takesF {X : Cx} : L2N.Takes X WF := fun _ _ ⟨_, _, _, _, _, _, _, _, _, _, _, _, _, _, _, _, w⟩ => w.elim
section
variable {K : PySem.W.Frag} {rc : RC K} {en : En} {G H : Hp} {σ σ' : L2.St} {st : DSt}
theorem SR.wiped (R : SR rc en G H σ st) : ∀ vs : List Nat, SR rc en G H (wipe σ vs) (unAll vs st)
  | [] => R
  | v :: vs => (SR.wiped R vs).setUn none v
/-- other values where nothing is known -/
theorem SR.other (R : SR rc en G H σ st) (hl : σ'.length = σ.length) (h : ∀ (i : Nat) (s : Slot), st[i]? = some s → s ≠ .un → σ'[i]? = σ[i]?) : SR rc en G H σ' st := by
  have at_ : ∀ {i : Nat} {s : Slot}, st[i]? = some s → s.isCell = true → σ'[i]? = σ[i]? := fun {i s} q c => h i s q fun z => by rw [z] at c; cases c
  refine ⟨R.gh, R.g0, R.h0, R.fr, R.ioO, R.ioN, R.ioH, R.hx, hl.trans R.len, fun i o s e q => ?_, fun a o e => ?_, fun i j p a b ne e1 q1 c1 e2 q2 c2 => ?_⟩
  · by_cases hs : s = .un
    · subst hs; trivial
    · exact R.sl i o s ((h i s q hs).symm.trans e) q
  · obtain ⟨h1, h2, h3⟩ := R.kp a o e
    refine ⟨h1, h2, fun i s e' q => ?_⟩
    cases c : s.isCell with
    | false => rfl
    | true =>
      rw [at_ q c] at e'
      have z := h3 i s e' q
      rw [c] at z; cases z
  · rw [at_ q1 c1] at e1
    rw [at_ q2 c2] at e2
    exact R.sep i j p a b ne e1 q1 c1 e2 q2 c2
theorem wipe_get {i : Nat} : ∀ {vs : List Nat}, i ∉ vs → (wipe σ vs)[i]? = σ[i]?
  | [], _ => rfl
  | v :: vs, h => by
    rw [List.mem_cons, not_or] at h
    unfold wipe
    rw [List.getElem?_set_ne (fun z => h.1 z.symm)]
    exact wipe_get h.2
theorem wipe_in {i : Nat} : ∀ {vs : List Nat}, i ∈ vs → i < σ.length → (wipe σ vs)[i]? = some none
  | [], h, _ => by cases h
  | v :: vs, h, hl => by
    unfold wipe
    by_cases e : v = i
    · subst e
      rw [List.getElem?_set_self (by rw [wipe_length]; exact hl)]
    · rw [List.getElem?_set_ne e]
      rcases List.mem_cons.mp h with z | z
      · exact absurd z.symm e
      · exact wipe_in z hl
theorem wipe_same {vs : List Nat} (hl : σ'.length = σ.length) (h : ∀ i, i ∉ vs → σ'[i]? = σ[i]?) : wipe σ' vs = wipe σ vs := by
  refine List.ext_getElem? fun i => ?_
  by_cases hi : i ∈ vs
  · by_cases hlt : i < σ.length
    · rw [wipe_in hi (by rw [hl]; exact hlt), wipe_in hi hlt]
    · rw [List.getElem?_eq_none (by rw [wipe_length]; omega), List.getElem?_eq_none (by rw [wipe_length]; omega)]
  · rw [wipe_get hi, wipe_get hi, h i hi]
theorem wipe_wipe (vs : List Nat) : wipe (wipe σ vs) vs = wipe σ vs := wipe_same (wipe_length σ vs) fun i hi => wipe_get hi
theorem unAll_in {i : Nat} {s : Slot} : ∀ {vs : List Nat}, i ∈ vs → (unAll vs st)[i]? = some s → s = .un
  | [], h, _ => by cases h
  | v :: vs, h, e => by
    unfold unAll at e
    rcases get_set_cases e with ⟨_, rfl⟩ | ⟨ne, e'⟩
    · rfl
    · rcases List.mem_cons.mp h with z | z
      · exact absurd z.symm ne
      · exact unAll_in z e'
theorem SR.unwiped {vs : List Nat} (R : SR rc en G H (wipe σ vs) (unAll vs st)) : SR rc en G H σ (unAll vs st) :=
  R.other (wipe_length σ vs).symm fun i s q hs => (wipe_get fun hi => hs (unAll_in hi q)).symm
/-- one more object is kept -/
theorem SR.keep (R : SR rc en G H σ st) {p : Addr} {o : HO} (hp : H p = some o) (gp : G p = none) (off : Off σ st p) : SR rc { en with kept := upd en.kept p o } G H σ st :=
  ⟨R.gh, R.g0, R.h0, R.fr, R.ioO, R.ioN, R.ioH, R.hx, R.len, fun i o s e q => by
    have z := R.sl i o s e q
    cases s <;> exact z, fun a u e => by
    by_cases h : a = p
    · subst h
      have e' : upd en.kept a o a = some u := e
      rw [upd_same] at e'
      cases e'
      exact ⟨hp, gp, off⟩
    · have e' : upd en.kept p o a = some u := e
      rw [upd_ne h] at e'
      exact R.kp a u e', R.sep⟩
theorem SR.unkeep {p : Addr} {o : HO} (R : SR rc { en with kept := upd en.kept p o } G H σ st) (n : en.kept p = none) : SR rc en G H σ st :=
  ⟨R.gh, R.g0, R.h0, R.fr, R.ioO, R.ioN, R.ioH, R.hx, R.len, fun i o s e q => by
    have z := R.sl i o s e q
    cases s <;> exact z, fun a u e => R.kp a u (by
    show upd en.kept p o a = some u
    rw [upd_ne (ne_of_none e n)]; exact e), R.sep⟩
/-- a kept object is changed -/
theorem SR.rekeep {p : Addr} {o o' : HO} (R : SR rc { en with kept := upd en.kept p o } G H σ st) (n : en.kept p = none) (h0 : en.H0 p = none) (nx : ∀ fs, o ≠ .xd fs) : SR rc { en with kept := upd en.kept p o' } G (upd H p o') σ st := by
  obtain ⟨hp, gp, off⟩ := R.kp p o upd_same
  have ne : ∀ {a : Addr} {u : HO}, G a = some u → a ≠ p := fun {a u} e z => by rw [z, gp] at e; cases e
  have own : ∀ {i : Nat} {s : Slot} {q : Addr}, σ[i]? = some (some (.ref q)) → st[i]? = some s → s.isCell = true → q ≠ p := fun {i s q} e1 e2 c z => by
    have := off i s (by rw [← z]; exact e1) e2
    rw [c] at this; cases this
  refine ⟨fun b u q => by rw [upd_ne (ne q)]; exact R.gh _ _ q, R.g0, fun a u na q => ?_, R.fr, R.ioO, R.ioN, fun a ha => ?_, fun a c d fs q => ?_, R.len, fun i ob s e q => ?_, fun a u e => ?_, R.sep⟩
  · have hne : a ≠ p := fun z => by
      have q' : en.H0 a = some u := q
      rw [z, h0] at q'; cases q'
    rw [upd_ne hne]; exact R.h0 a u na q
  · by_cases z : a = p
    · rw [z, upd_same]; simp
    · rw [upd_ne z]; exact R.ioH a ha
  · rcases R.hx a c d fs q with h1 | ⟨dd, fvs, h1, h2, h3⟩
    · exact .inl h1
    · exact .inr ⟨dd, fvs, h1, by rw [upd_ne (fun z => by rw [z, hp] at h2; exact nx fvs (Option.some.inj h2))]; exact h2, h3⟩
  · have z := R.sl i ob s e q
    cases s with
    | un => trivial
    | pure d => exact z
    | fr d => exact z
    | cell d =>
      obtain ⟨r, h1, h2, h3, h4⟩ := z
      subst h1
      exact ⟨r, rfl, h2, h3, h4.to (L2.Same.refl _) (upd_ne (own e q rfl))⟩
    | io k d =>
      obtain ⟨r, h1, h2, h4⟩ := z
      subst h1
      exact ⟨r, rfl, h2, h4.to (L2.Same.refl _) (upd_ne (own e q rfl))⟩
  · by_cases h : a = p
    · subst h
      have e' : upd en.kept a o' a = some u := e
      rw [upd_same] at e' ⊢
      exact ⟨e', gp, off⟩
    · have e' : upd en.kept p o' a = some u := e
      rw [upd_ne h] at e' ⊢
      exact R.kp a u (by show upd en.kept p o a = some u; rw [upd_ne h]; exact e')
end
/-- the turns of a comprehension: items left, what is made so far -/
def lcGo (vs : List Nat) (t : TgD) (ft : DT) (fe : DE) : List D → List D → DSt → DR (List D)
  | [], acc, st => .ok acc st
  | x :: xs, acc, st => match t x st with
    | none => .stuck
    | some st1 => match ft st1 with
      | .ok true st2 => (match fe st2 with
        | .ok d st3 => if acc.length < mostD then lcGo vs t ft fe xs (acc ++ [d]) (unAll vs st3) else .stuck
        | _ => .stuck)
      | .ok false st2 => lcGo vs t ft fe xs acc (unAll vs st2)
      | _ => .stuck
def dLc (fi : DA) (vs : List Nat) (t : TgD) (ft : DT) (fe : DE) : DE := fun st => (fi st).bind fun items st1 => (lcGo vs t ft fe items [] (unAll vs st1)).bind fun ds st2 => .ok (.lst ds) st2
def bdYes : DT := fun st => .ok true st
section
variable {X : Cx} {rc : RC X.K} {en : En} {W : WX} {e a b c : Expr} {es : List Expr} {pos : Pos} {fa fb fc : DE}
theorem pts_nil' {en : En} {W : WX} : PTs X [] (tD rc en W bdYes) := ⟨fun pins s σ H Q I h => by
  obtain ⟨G, st, R, h⟩ := h
  exact pts_nil.run pins s σ H Q I (h G H (L2.Same.refl _) R)⟩
theorem pts_one' {f : DT} (h : PT X c (tD rc en W f)) : PTs X [c] (tD rc en W f) := pts_one h
/-- the reading of a comprehension -/
theorem tF_lc {fi : DA} {vs : List Nat} {t : TgD} {ts : List Nat} {ft : DT} {fe : DE} (hts : ∀ i ∈ ts, i ∈ vs) {σ : L2.St} {H : Hp} {Q : VK} (h : tF rc en W (dLc fi vs t ft fe) σ H Q) :
    tLc (tI rc en W fi) (fun v σ H Q => ∃ en', tGt rc en' t ts v σ H Q) (fun σ H Q => ∃ en', tD rc en' WF ft σ H Q) (fun σ H Q => ∃ en', tU rc en' WF fe σ H Q) vs σ H Q := by
  obtain ⟨G, st, R, h⟩ := h
  refine ⟨G, st, R, (Ends3.bind h).imp fun items st1 G1 H1 s1 R1 h1 J yd Dd hD => ?_⟩
  obtain ⟨Gd, Y, wk, hGd, hY⟩ := yd
  have f1 := Fresh.new R1 hD
  have g1 := Grow.newH (o := .lst []) R1.gh hD
  have R2 := (R1.grow g1).wiped vs
  have off2 : Off (wipe σ vs) (unAll vs st1) Dd := fun i s e q => by
    rcases unAll_get q with rfl | ⟨n, q'⟩
    · rfl
    · rw [wipe_get n] at e
      exact f1.off i s e q'
  refine lc_it wk (g := fun v σ H Q => ∃ en', tGt rc en' t ts v σ H Q) (tt := fun σ H Q => ∃ en', tD rc en' WF ft σ H Q) (te := fun σ H Q => ∃ en', tU rc en' WF fe σ H Q) (vs := vs) (σ := σ) (Qd := fun H => Q (.ref Dd) H) (fun i H => i ≤ items.length ∧ ∃ G st acc accV, SR rc { en with kept := upd en.kept Dd (.lst accV) } G H (wipe σ vs) (unAll vs st) ∧ Reps rc G accV acc ∧ Same G1 G ∧
      Ends3 rc en W σ ((lcGo vs t ft fe (items.drop i) acc (unAll vs st)).bind fun ds st2 => DR.ok (D.lst ds) st2) G fun d st' G' H' => ∀ p, Fresh en G' σ st' p → CellRep rc G' H' p d → Q (.ref p) H')
    ⟨Nat.zero_le _, G1, st1, [], [], R2.keep upd_same f1.g off2, .nil, L2.Same.refl _, h1⟩ (fun i H hi ⟨_, G, st, acc, accV, R, _, s, _⟩ => hGd G H s R.gh) (fun i x H H' hlt ⟨_, G, st, acc, accV, R, ra, s, h⟩ y => ?_) (fun H ⟨_, G, st, acc, accV, R, ra, s, h⟩ => ?_)
  · obtain ⟨d, hd, G', gr, rx⟩ := hY i G H x H' hlt s R.gh y
    have R' := R.grow gr
    have hdrop : items.drop i = d :: items.drop (i + 1) := by
      rw [List.drop_eq_getElem_cons hlt]
      congr 1
      rw [List.getElem?_eq_getElem hlt] at hd
      exact Option.some.inj hd
    rw [hdrop] at h
    replace h := Ends3.up gr.g h
    unfold lcGo at h
    cases q : t d (unAll vs st) with
    | none => rw [q] at h; exact h.elim
    | some st2 =>
      rw [q] at h
      refine ⟨_, G', _, d, st2, R', rx, q, fun σ2 R2 l2 fr2 => ⟨?_, ?_⟩⟩
      · rw [← wipe_wipe (σ := σ) vs]
        exact wipe_same l2 fun i hi => fr2 i fun hm => hi (hts i hm)
      · have w2 : wipe σ2 vs = wipe σ vs := by
          rw [← wipe_wipe (σ := σ) vs]
          exact wipe_same l2 fun i hi => fr2 i fun hm => hi (hts i hm)
        dsimp only at h
        refine ⟨_, G', st2, R2, ?_⟩
        cases q2 : ft st2 with
        | exc x st3 => rw [q2] at h; exact h.elim
        | stuck => rw [q2] at h; exact h.elim
        | ok b st3 =>
          rw [q2] at h
          intro G3 H3 s3 R3
          cases b with
          | false =>
            rw [if_neg Bool.false_ne_true]
            have R4 := R3.wiped vs
            rw [w2] at R4
            exact ⟨hlt, G3, st3, acc, accV, R4, (ra.mono gr.g).mono s3, (s.trans gr.g).trans s3, Ends3.up s3 h⟩
          | true =>
            rw [if_pos rfl]
            dsimp only at h
            refine ⟨_, G3, st3, R3, ?_⟩
            cases q3 : fe st3 with
            | exc x st4 => rw [q3] at h; exact h.elim
            | stuck => rw [q3] at h; exact h.elim
            | ok dv st4 =>
              rw [q3] at h
              intro G4 H4 s4 R4 yv ry
              dsimp only at h
              by_cases z : acc.length < mostD
              · rw [if_pos z] at h
                obtain ⟨hk, gk, _⟩ := R4.kp Dd _ upd_same
                have ra4 := ((ra.mono gr.g).mono s3).mono s4
                refine ⟨accV, hk, by rw [ra4.length, ← mostD_eq]; exact z, hlt, G4, st4, acc ++ [dv], accV ++ [yv], ?_, ra4.append (.one ry), ((s.trans gr.g).trans s3).trans s4, Ends3.up (s3.trans s4) h⟩
                have R5 := R4.wiped vs
                rw [w2] at R5
                exact R5.rekeep f1.nk f1.h0 (fun _ z => by cases z)
              · rw [if_neg z] at h; exact h.elim
  · rw [List.drop_length] at h
    have hk := R.kp Dd _ upd_same
    have R3 := (R.unkeep f1.nk).unwiped
    refine h G H (L2.Same.refl _) R3 Dd ⟨hk.2.1, f1.h0, fun i s e q => ?_, f1.nk⟩ ⟨accV, hk.1, ra⟩
    cases c : s.isCell with
    | false => rfl
    | true =>
      by_cases hi : i ∈ vs
      · have z := unAll_in hi q
        rw [z] at c; cases c
      · have z := hk.2.2 i s (by rw [wipe_get hi]; exact e) q
        rw [c] at z; cases z
theorem pf_lc {elt tg iter : Expr} {ifs : List Expr} {scope : Scope} {own : List (Str × Nat)} {fi : DA} {t : TgD} {ts : List Nat} {ft : DT} {fe : DE} (hc : X.calm = true) (hN : X.N.Nodup) (hi : PI X tg iter (tI rc en W fi)) (ok : BlkOk X.N X.env.scope scope own)
    (hg : ∀ (en : En) (s : Shared) (H : Hp) (C : Addr) (cl : List (Str × Addr)) (fp : List Addr), PG (X.blk s H scope (compEnvC scope cl C X.env) fp) tg (tGt (X := X.blk s H scope (compEnvC scope cl C X.env) fp) rc en t ts))
    (ht : ∀ (en : En) (s : Shared) (H : Hp) (C : Addr) (cl : List (Str × Addr)) (fp : List Addr), PTs (X.blk s H scope (compEnvC scope cl C X.env) fp) ifs (tD rc en WF ft))
    (he : ∀ (en : En) (s : Shared) (H : Hp) (C : Addr) (cl : List (Str × Addr)) (fp : List Addr), PE (X.blk s H scope (compEnvC scope cl C X.env) fp) elt (tU rc en WF fe))
    (hts : ∀ i ∈ ts, i ∈ own.map (·.2) := by decide) (hs : ∀ x, foldedSetIterable iter X.env x = pure x := by intro _; rfl) :
    PE X (.ListComp elt [⟨tg, iter, ifs, 0⟩] scope pos) (tF rc en W (dLc fi (own.map (·.2)) t ft fe)) :=
  (pe_lc (g := fun v σ H Q => ∃ en', tGt rc en' t ts v σ H Q) (tt := fun σ H Q => ∃ en', tD rc en' WF ft σ H Q) (te := fun σ H Q => ∃ en', tU rc en' WF fe σ H Q) hc hN hi ok
    (fun s H C cl fp => ⟨fun pins s' σ H' v u Q I r ⟨en', h⟩ => (hg en' s H C cl fp).run pins s' σ H' v u Q I r h⟩) (fun s H C cl fp => ⟨fun pins s' σ H' Q I ⟨en', h⟩ => (ht en' s H C cl fp).run pins s' σ H' Q I h⟩)
    (fun s H C cl fp => ⟨fun pins s' σ H' Q I ⟨en', h⟩ => (he en' s H C cl fp).run pins s' σ H' Q I h⟩) hs).imp fun σ H Q h => tF_lc hts h
theorem EndS.F {i : Nat} {fa : DE} {σ : L2.St} {H : Hp} {Dn : Ends} (h : tS rc en W (sSetF i fa) Dn σ H) : tF rc en W fa σ H fun x H1 => gName i x σ H1 Dn.nx := by
  obtain ⟨G, st, R, h⟩ := h
  exact ⟨G, st, R, (EndS.of h).imp fun d st1 G1 H1 s1 R1 h1 p fp cr => h1 _ G1 H1 (L2.Same.refl _) (R1.setCell i fp cr)⟩
/-- name = [..] on one line -/
theorem q_setLc {i : Nat} {y : Str} {py spos : Pos} {elt tg iter : Expr} {ifs : List Expr} {scope : Scope} {own : List (Str × Nat)} {fi : DA} {t : TgD} {ts : List Nat} {ft : DT} {fe : DE} (hc : X.calm = true) (hN : X.N.Nodup)
    (hsw : swapsWith (.ListComp elt [⟨tg, iter, ifs, 0⟩] scope pos) (some (.Name y py)) spos.line X.env = pure true) (hi : PI X tg iter (tI rc en W fi)) (ok : BlkOk X.N X.env.scope scope own)
    (hg : ∀ (en : En) (s : Shared) (H : Hp) (C : Addr) (cl : List (Str × Addr)) (fp : List Addr), PG (X.blk s H scope (compEnvC scope cl C X.env) fp) tg (tGt (X := X.blk s H scope (compEnvC scope cl C X.env) fp) rc en t ts))
    (ht : ∀ (en : En) (s : Shared) (H : Hp) (C : Addr) (cl : List (Str × Addr)) (fp : List Addr), PTs (X.blk s H scope (compEnvC scope cl C X.env) fp) ifs (tD rc en WF ft))
    (he : ∀ (en : En) (s : Shared) (H : Hp) (C : Addr) (cl : List (Str × Addr)) (fp : List Addr), PE (X.blk s H scope (compEnvC scope cl C X.env) fp) elt (tU rc en WF fe))
    (hts : ∀ i ∈ ts, i ∈ own.map (·.2) := by decide) (hs : ∀ x, foldedSetIterable iter X.env x = pure x := by intro _; rfl) (hy : X.N[i]? = some y := by rfl) (hyl : X.env.scope.names.lookup y = some .local := by rfl) :
    PS X (.Assign [.Name y py] (.ListComp elt [⟨tg, iter, ifs, 0⟩] scope pos) spos) (tS rc en W (sSetF i (dLc fi (own.map (·.2)) t ft fe))) :=
  (ps_setLc (g := fun v σ H Q => ∃ en', tGt rc en' t ts v σ H Q) (tt := fun σ H Q => ∃ en', tD rc en' WF ft σ H Q) (te := fun σ H Q => ∃ en', tU rc en' WF fe σ H Q) hc hN hy hyl hsw hi ok
    (fun s H C cl fp => ⟨fun pins s' σ H' v u Q I r ⟨en', h⟩ => (hg en' s H C cl fp).run pins s' σ H' v u Q I r h⟩) (fun s H C cl fp => ⟨fun pins s' σ H' Q I ⟨en', h⟩ => (ht en' s H C cl fp).run pins s' σ H' Q I h⟩)
    (fun s H C cl fp => ⟨fun pins s' σ H' Q I ⟨en', h⟩ => (he en' s H C cl fp).run pins s' σ H' Q I h⟩) hs).imp fun Dn σ H h => tF_lc hts (EndS.F h)
/-! ### two fors -/
theorem lc_itH {J : It} {n : Nat} {Gd : Hp → Prop} {Y : Nat → Hp → V → Hp → Prop} (wk : Walk J n Gd Y) {g : TG} {tt : TT} {te : TE} {vs : List Nat} {σ : L2.St} {H0 : Hp} {D : Addr} {Qd : Hp → Prop} (Pv : Nat → Hp → Prop) (h0 : Pv 0 H0) (hG : ∀ i H, i ≤ n → Pv i H → Gd H)
    (hs : ∀ i x H H', i < n → Pv i H → Y i H x H' → g x (wipe σ vs) H' fun σ2 H2 => wipe σ2 vs = wipe σ vs ∧ tt σ2 H2 fun b H3 =>
      if b = true then te σ2 H3 fun y H4 => ∃ acc, H4 D = some (.lst acc) ∧ acc.length < sizeLine ∧ Pv (i + 1) (upd H4 D (.lst (acc ++ [y]))) else Pv (i + 1) H3) (hd : ∀ H, Pv n H → Qd H) :
    ∃ W : Nat → Nat → Hp → Prop, (∃ m, W 0 m H0) ∧ ∀ i m H, W i m H →
      (J.stop i H ∧ Qd H) ∨ (J.go i H ∧ ∃ Nx : Hp → Prop, (∀ H', Nx H' → ∃ m', m' < m ∧ W (i + 1) m' H') ∧ ∀ x H', J.yld i H x H' → g x (wipe σ vs) H' fun σ2 H2 => wipe σ2 vs = wipe σ vs ∧ tt σ2 H2 fun b H3 =>
        if b = true then te σ2 H3 fun y H4 => ∃ acc, H4 D = some (.lst acc) ∧ acc.length < sizeLine ∧ Nx (upd H4 D (.lst (acc ++ [y]))) else Nx H3) := by
  refine ⟨fun i m H => m + i = n ∧ Pv i H, ⟨n, rfl, h0⟩, fun i m H ⟨em, p⟩ => ?_⟩
  have le : i ≤ n := by omega
  rcases Nat.lt_or_ge i n with hlt | hge
  · exact .inr ⟨wk.goes i H hlt (hG i H le p), Pv (i + 1), fun H' p' => ⟨m - 1, by omega, by omega, p'⟩, fun x H' y => hs i x H H' hlt p (wk.yields i H x H' hlt (hG i H le p) y)⟩
  · have e : i = n := by omega
    subst e
    exact .inl ⟨wk.stops H (hG i H le p), hd H p⟩
def lcGo2 (vs : List Nat) (t : TgD) (ft : DT) (fi1 : DA) (vs1 : List Nat) (t1 : TgD) (ft1 : DT) (fe : DE) : List D → List D → DSt → DR (List D)
  | [], acc, st => .ok acc st
  | x :: xs, acc, st => match t x st with
    | none => .stuck
    | some st1 => match ft st1 with
      | .ok true st2 => (match fi1 st2 with
        | .ok items1 st3 => (match lcGo vs1 t1 ft1 fe items1 acc (unAll vs1 st3) with
          | .ok acc' st4 => lcGo2 vs t ft fi1 vs1 t1 ft1 fe xs acc' (unAll vs st4)
          | _ => .stuck)
        | _ => .stuck)
      | .ok false st2 => lcGo2 vs t ft fi1 vs1 t1 ft1 fe xs acc (unAll vs st2)
      | _ => .stuck
def dLc2 (fi : DA) (vs : List Nat) (t : TgD) (ft : DT) (fi1 : DA) (vs1 : List Nat) (t1 : TgD) (ft1 : DT) (fe : DE) : DE := fun st => (fi st).bind fun items st1 => (lcGo2 vs t ft fi1 vs1 t1 ft1 fe items [] (unAll vs st1)).bind fun ds st2 => .ok (.lst ds) st2
/-- the inner loop: from what is made so far to Nx -/
theorem lc_inner {t : TgD} {ts vs : List Nat} {ft : DT} {fe : DE} {items : List D} {J : It} {Gb Gs H4 : Hp} {Dd : Addr} {σ : L2.St} {st1 stF : DSt} {acc0 accF : List D} {accV0 : List V} {Nx : Hp → Prop} (hts : ∀ i ∈ ts, i ∈ vs) (yd : YD (X := X) rc Gb items J) (nk : en.kept Dd = none) (h0D : en.H0 Dd = none)
    (R0 : SR rc { en with kept := upd en.kept Dd (.lst accV0) } Gs H4 σ st1) (sb : Same Gb Gs) (ra0 : Reps rc Gs accV0 acc0) (go : lcGo vs t ft fe items acc0 (unAll vs st1) = .ok accF stF)
    (fin : ∀ G H accV, SR rc { en with kept := upd en.kept Dd (.lst accV) } G H (wipe σ vs) stF → Reps rc G accV accF → Same Gs G → Nx H) :
    ∃ W1 : Nat → Nat → Hp → Prop, (∃ m, W1 0 m H4) ∧ ∀ j k H, W1 j k H →
      (J.stop j H ∧ Nx H) ∨ (J.go j H ∧ ∃ Nx1 : Hp → Prop, (∀ H', Nx1 H' → ∃ k', k' < k ∧ W1 (j + 1) k' H') ∧ ∀ x H', J.yld j H x H' → (fun v σ H Q => ∃ en', tGt (X := X) rc en' t ts v σ H Q) x (wipe σ vs) H' fun σ3 H5 => wipe σ3 vs = wipe σ vs ∧ (fun σ H Q => ∃ en', tD rc en' WF ft σ H Q) σ3 H5 fun b H6 =>
        if b = true then (fun σ H Q => ∃ en', tU rc en' WF fe σ H Q) σ3 H6 fun y H7 => ∃ acc, H7 Dd = some (.lst acc) ∧ acc.length < sizeLine ∧ Nx1 (upd H7 Dd (.lst (acc ++ [y]))) else Nx1 H6) := by
  obtain ⟨Gd, Y, wk, hGd, hY⟩ := yd
  refine lc_itH wk (g := fun v σ H Q => ∃ en', tGt (X := X) rc en' t ts v σ H Q) (tt := fun σ H Q => ∃ en', tD rc en' WF ft σ H Q) (te := fun σ H Q => ∃ en', tU rc en' WF fe σ H Q) (vs := vs) (σ := σ) (Qd := Nx) (fun i H => i ≤ items.length ∧ ∃ G st acc accV, SR rc { en with kept := upd en.kept Dd (.lst accV) } G H (wipe σ vs) (unAll vs st) ∧ Reps rc G accV acc ∧ Same Gs G ∧
      lcGo vs t ft fe (items.drop i) acc (unAll vs st) = .ok accF stF)
    ⟨Nat.zero_le _, Gs, st1, acc0, accV0, R0.wiped vs, ra0, L2.Same.refl _, go⟩ (fun i H hi ⟨_, G, st, acc, accV, R, _, s, _⟩ => hGd G H (sb.trans s) R.gh) (fun i x H H' hlt ⟨_, G, st, acc, accV, R, ra, s, h⟩ y => ?_) (fun H ⟨_, G, st, acc, accV, R, ra, s, h⟩ => ?_)
  · obtain ⟨d, hd, G', gr, rx⟩ := hY i G H x H' hlt (sb.trans s) R.gh y
    have R' := R.grow gr
    have hdrop : items.drop i = d :: items.drop (i + 1) := by
      rw [List.drop_eq_getElem_cons hlt]
      congr 1
      rw [List.getElem?_eq_getElem hlt] at hd
      exact Option.some.inj hd
    rw [hdrop] at h
    unfold lcGo at h
    cases q : t d (unAll vs st) with
    | none => rw [q] at h; cases h
    | some st2 =>
      rw [q] at h
      refine ⟨_, G', _, d, st2, R', rx, q, fun σ2 R2 l2 fr2 => ?_⟩
      have w2 : wipe σ2 vs = wipe σ vs := by
        rw [← wipe_wipe (σ := σ) vs]
        exact wipe_same l2 fun i hi => fr2 i fun hm => hi (hts i hm)
      refine ⟨w2, ?_⟩
      dsimp only at h
      refine ⟨_, G', st2, R2, ?_⟩
      cases q2 : ft st2 with
      | exc x st3 => rw [q2] at h; cases h
      | stuck => rw [q2] at h; cases h
      | ok b st3 =>
        rw [q2] at h
        intro G3 H3 s3 R3
        cases b with
        | false =>
          rw [if_neg Bool.false_ne_true]
          have R4 := R3.wiped vs
          rw [w2] at R4
          exact ⟨hlt, G3, st3, acc, accV, R4, (ra.mono gr.g).mono s3, (s.trans gr.g).trans s3, h⟩
        | true =>
          rw [if_pos rfl]
          dsimp only at h
          refine ⟨_, G3, st3, R3, ?_⟩
          cases q3 : fe st3 with
          | exc x st4 => rw [q3] at h; cases h
          | stuck => rw [q3] at h; cases h
          | ok dv st4 =>
            rw [q3] at h
            intro G4 H4 s4 R4 yv ry
            dsimp only at h
            by_cases z : acc.length < mostD
            · rw [if_pos z] at h
              obtain ⟨hk, gk, _⟩ := R4.kp Dd _ upd_same
              have ra4 := ((ra.mono gr.g).mono s3).mono s4
              refine ⟨accV, hk, by rw [ra4.length, ← mostD_eq]; exact z, hlt, G4, st4, acc ++ [dv], accV ++ [yv], ?_, ra4.append (.one ry), ((s.trans gr.g).trans s3).trans s4, h⟩
              have R5 := R4.wiped vs
              rw [w2] at R5
              exact R5.rekeep nk h0D (fun _ z => by cases z)
            · rw [if_neg z] at h; cases h
  · rw [List.drop_length] at h
    unfold lcGo at h
    have e := DR.ok.inj h
    rw [← e.1, ← e.2] at fin
    exact fin G H accV R ra s
theorem tF_lc2 {fi fi1 : DA} {vs vs1 : List Nat} {t t1 : TgD} {ts ts1 : List Nat} {ft ft1 : DT} {fe : DE} (hts : ∀ i ∈ ts, i ∈ vs) (hts1 : ∀ i ∈ ts1, i ∈ vs1) (hv : ∀ i ∈ vs1, i ∈ vs) {σ : L2.St} {H : Hp} {Q : VK} (h : tF rc en W (dLc2 fi vs t ft fi1 vs1 t1 ft1 fe) σ H Q) :
    tLc2 (tI rc en W fi) (fun v σ H Q => ∃ en', tGt rc en' t ts v σ H Q) (fun σ H Q => ∃ en', tD rc en' WF ft σ H Q) (fun σ H R => ∃ en', tI rc en' WF fi1 σ H R) (fun v σ H Q => ∃ en', tGt (X := X) rc en' t1 ts1 v σ H Q) (fun σ H Q => ∃ en', tD rc en' WF ft1 σ H Q) (fun σ H Q => ∃ en', tU rc en' WF fe σ H Q) vs vs1 σ H Q := by
  obtain ⟨G, st, R, h⟩ := h
  refine ⟨G, st, R, (Ends3.bind h).imp fun items st1 G1 H1 s1 R1 h1 J yd Dd hD => ?_⟩
  obtain ⟨Gd, Y, wk, hGd, hY⟩ := yd
  have f1 := Fresh.new R1 hD
  have g1 := Grow.newH (o := .lst []) R1.gh hD
  have R2 := (R1.grow g1).wiped vs
  have off2 : Off (wipe σ vs) (unAll vs st1) Dd := fun i s e q => by
    rcases unAll_get q with rfl | ⟨n, q'⟩
    · rfl
    · rw [wipe_get n] at e
      exact f1.off i s e q'
  let Pv : Nat → Hp → Prop := fun i H => i ≤ items.length ∧ ∃ G st acc accV, SR rc { en with kept := upd en.kept Dd (.lst accV) } G H (wipe σ vs) (unAll vs st) ∧ Reps rc G accV acc ∧ Same G1 G ∧
      Ends3 rc en W σ ((lcGo2 vs t ft fi1 vs1 t1 ft1 fe (items.drop i) acc (unAll vs st)).bind fun ds st2 => DR.ok (D.lst ds) st2) G fun d st' G' H' => ∀ p, Fresh en G' σ st' p → CellRep rc G' H' p d → Q (.ref p) H'
  refine ⟨fun i m H => m + i = items.length ∧ Pv i H, ⟨items.length, rfl, Nat.zero_le _, G1, st1, [], [], R2.keep upd_same f1.g off2, .nil, L2.Same.refl _, h1⟩, fun i m H ⟨em, hle, G, st, acc, accV, R, ra, s, h⟩ => ?_⟩
  rcases Nat.lt_or_ge i items.length with hlt | hge
  · refine .inr ⟨wk.goes i H hlt (hGd G H s R.gh), Pv (i + 1), fun H' p' => ⟨m - 1, by omega, by omega, p'⟩, fun x H' y => ?_⟩
    obtain ⟨d, hd, G', gr, rx⟩ := hY i G H x H' hlt s R.gh (wk.yields i H x H' hlt (hGd G H s R.gh) y)
    have R' := R.grow gr
    have hdrop : items.drop i = d :: items.drop (i + 1) := by
      rw [List.drop_eq_getElem_cons hlt]
      congr 1
      rw [List.getElem?_eq_getElem hlt] at hd
      exact Option.some.inj hd
    rw [hdrop] at h
    replace h := Ends3.up gr.g h
    unfold lcGo2 at h
    cases q : t d (unAll vs st) with
    | none => rw [q] at h; exact h.elim
    | some st2 =>
      rw [q] at h
      refine ⟨_, G', _, d, st2, R', rx, q, fun σ2 R2 l2 fr2 => ?_⟩
      have w2 : wipe σ2 vs = wipe σ vs := by
        rw [← wipe_wipe (σ := σ) vs]
        exact wipe_same l2 fun i hi => fr2 i fun hm => hi (hts i hm)
      refine ⟨w2, ?_⟩
      dsimp only at h
      refine ⟨_, G', st2, R2, ?_⟩
      cases q2 : ft st2 with
      | exc x st3 => rw [q2] at h; exact h.elim
      | stuck => rw [q2] at h; exact h.elim
      | ok b st3 =>
        rw [q2] at h
        intro G3 H3 s3 R3
        cases b with
        | false =>
          rw [if_neg Bool.false_ne_true]
          have R4 := R3.wiped vs
          rw [w2] at R4
          exact ⟨hlt, G3, st3, acc, accV, R4, (ra.mono gr.g).mono s3, (s.trans gr.g).trans s3, Ends3.up s3 h⟩
        | true =>
          rw [if_pos rfl]
          dsimp only at h
          refine ⟨_, G3, st3, R3, ?_⟩
          cases q3 : fi1 st3 with
          | exc x st4 => rw [q3] at h; exact h.elim
          | stuck => rw [q3] at h; exact h.elim
          | ok items1 st4 =>
            rw [q3] at h
            intro G4 H4 s4 R4 J1 yd1
            dsimp only at h
            cases q4 : lcGo vs1 t1 ft1 fe items1 acc (unAll vs1 st4) with
            | exc x st5 => rw [q4] at h; exact h.elim
            | stuck => rw [q4] at h; exact h.elim
            | ok acc' st5 =>
              rw [q4] at h
              dsimp only at h
              have ra4 := ((ra.mono gr.g).mono s3).mono s4
              refine lc_inner hts1 yd1 f1.nk f1.h0 R4 (L2.Same.refl _) ra4 q4 fun G6 H6 accV6 R6 ra6 s6 => ?_
              refine ⟨hlt, G6, st5, acc', accV6, ?_, ra6, (((s.trans gr.g).trans s3).trans s4).trans s6, Ends3.up ((s3.trans s4).trans s6) h⟩
              have R7 := R6.wiped vs
              have e : wipe (wipe σ2 vs1) vs = wipe σ vs := by
                rw [← w2]
                exact wipe_same (wipe_length σ2 vs1) fun i hi => wipe_get fun hm => hi (hv i hm)
              rw [e] at R7
              exact R7
  · have e : i = items.length := by omega
    subst e
    refine .inl ⟨wk.stops H (hGd G H s R.gh), ?_⟩
    rw [List.drop_length] at h
    have hk := R.kp Dd _ upd_same
    have R3 := (R.unkeep f1.nk).unwiped
    refine h G H (L2.Same.refl _) R3 Dd ⟨hk.2.1, f1.h0, fun i s e q => ?_, f1.nk⟩ ⟨accV, hk.1, ra⟩
    cases c : s.isCell with
    | false => rfl
    | true =>
      by_cases hi : i ∈ vs
      · have z := unAll_in hi q
        rw [z] at c; cases c
      · have z := hk.2.2 i s (by rw [wipe_get hi]; exact e) q
        rw [c] at z; cases z
theorem pf_lc2 {elt tg iter tg1 iter1 : Expr} {ifs ifs1 : List Expr} {scope : Scope} {own : List (Str × Nat)} {vs1 : List Nat} {fi fi1 : DA} {t t1 : TgD} {ts ts1 : List Nat} {ft ft1 : DT} {fe : DE} (hc : X.calm = true) (hN : X.N.Nodup) (hi : PI X tg iter (tI rc en W fi)) (ok : BlkOk X.N X.env.scope scope own)
    (hg : ∀ (en : En) (s : Shared) (H : Hp) (C : Addr) (cl : List (Str × Addr)) (fp : List Addr), PG (X.blk s H scope (compEnvC scope cl C X.env) fp) tg (tGt (X := X.blk s H scope (compEnvC scope cl C X.env) fp) rc en t ts))
    (ht : ∀ (en : En) (s : Shared) (H : Hp) (C : Addr) (cl : List (Str × Addr)) (fp : List Addr), PTs (X.blk s H scope (compEnvC scope cl C X.env) fp) ifs (tD rc en WF ft))
    (hi1 : ∀ (en : En) (s : Shared) (H : Hp) (C : Addr) (cl : List (Str × Addr)) (fp : List Addr), PI (X.blk s H scope (compEnvC scope cl C X.env) fp) tg1 iter1 (tI (X := X.blk s H scope (compEnvC scope cl C X.env) fp) rc en WF fi1))
    (hg1 : ∀ (en : En) (s : Shared) (H : Hp) (C : Addr) (cl : List (Str × Addr)) (fp : List Addr), PG (X.blk s H scope (compEnvC scope cl C X.env) fp) tg1 (tGt (X := X.blk s H scope (compEnvC scope cl C X.env) fp) rc en t1 ts1))
    (ht1 : ∀ (en : En) (s : Shared) (H : Hp) (C : Addr) (cl : List (Str × Addr)) (fp : List Addr), PTs (X.blk s H scope (compEnvC scope cl C X.env) fp) ifs1 (tD rc en WF ft1))
    (he : ∀ (en : En) (s : Shared) (H : Hp) (C : Addr) (cl : List (Str × Addr)) (fp : List Addr), PE (X.blk s H scope (compEnvC scope cl C X.env) fp) elt (tU rc en WF fe))
    (hts : ∀ i ∈ ts, i ∈ own.map (·.2) := by decide) (hts1 : ∀ i ∈ ts1, i ∈ vs1 := by decide) (hv : ∀ i ∈ vs1, i ∈ own.map (·.2) := by decide) (hs : ∀ x, foldedSetIterable iter X.env x = pure x := by intro _; rfl) (hs1 : ∀ env x, foldedSetIterable iter1 env x = pure x := by intro _ _; rfl) :
    PE X (.ListComp elt [⟨tg, iter, ifs, 0⟩, ⟨tg1, iter1, ifs1, 0⟩] scope pos) (tF rc en W (dLc2 fi (own.map (·.2)) t ft fi1 vs1 t1 ft1 fe)) :=
  (pe_lc2 (g := fun v σ H Q => ∃ en', tGt rc en' t ts v σ H Q) (tt := fun σ H Q => ∃ en', tD rc en' WF ft σ H Q) (wi1 := fun σ H R => ∃ en', tI rc en' WF fi1 σ H R) (g1 := fun v σ H Q => ∃ en', tGt rc en' t1 ts1 v σ H Q) (tt1 := fun σ H Q => ∃ en', tD rc en' WF ft1 σ H Q) (te := fun σ H Q => ∃ en', tU rc en' WF fe σ H Q) hc hN hi ok hv
    (fun s H C cl fp => ⟨fun pins s' σ H' v u Q I r ⟨en', h⟩ => (hg en' s H C cl fp).run pins s' σ H' v u Q I r h⟩) (fun s H C cl fp => ⟨fun pins s' σ H' Q I ⟨en', h⟩ => (ht en' s H C cl fp).run pins s' σ H' Q I h⟩)
    (fun s H C cl fp => ⟨fun pins s' σ H' Q I ⟨en', h⟩ => (hi1 en' s H C cl fp).run pins s' σ H' Q I h⟩)
    (fun s H C cl fp => ⟨fun pins s' σ H' v u Q I r ⟨en', h⟩ => (hg1 en' s H C cl fp).run pins s' σ H' v u Q I r h⟩) (fun s H C cl fp => ⟨fun pins s' σ H' Q I ⟨en', h⟩ => (ht1 en' s H C cl fp).run pins s' σ H' Q I h⟩)
    (fun s H C cl fp => ⟨fun pins s' σ H' Q I ⟨en', h⟩ => (he en' s H C cl fp).run pins s' σ H' Q I h⟩) hs hs1).imp fun σ H Q h => tF_lc2 hts hts1 hv h
end
end U
set_option maxRecDepth 100000
set_option maxHeartbeats 2000000
/-! PL9: > of lists, sum, all, any, isinstance, range downwards, enumerate over tuples. -/
namespace U
open PySem PySem.Spec PyProof.Rows L2
/-! ### > of lists of ints -/
def intsOf : List D → Option (List Int)
  | [] => some []
  | .int i :: r => (intsOf r).map (i :: ·)
  | _ :: _ => none
theorem intsOf_map (l : List Int) : intsOf (l.map .int) = some l := by
  induction l with
  | nil => rfl
  | cons i l ih => rw [List.map_cons]; unfold intsOf; rw [ih]; rfl
theorem intsOf_some : ∀ {ds : List D} {l : List Int}, intsOf ds = some l → ds = l.map .int
  | [], l, h => by cases h; rfl
  | d :: ds, l, h => by
    cases d with
    | int i =>
      have h' : (intsOf ds).map (i :: ·) = some l := h
      cases q : intsOf ds with
      | none => rw [q] at h'; cases h'
      | some m => rw [q] at h'; cases h'; rw [List.map_cons, ← intsOf_some q]
    | _ => cases h
section
variable {K : PySem.W.Frag} {rc : RC K} {G : Hp}
theorem Reps.ints : ∀ {l : List Int} {xs : List V}, Reps rc G xs (l.map .int) → xs = l.map V.int
  | [], _, .nil => rfl
  | i :: l, _, .cons (.int _) r => by rw [List.map_cons, Reps.ints r]
theorem DpAll.ofInts {H : Hp} : ∀ (l : List Int), DpAll K H (l.map V.int) (l.map .int)
  | [] => .nil
  | i :: l => .cons (.int i) (DpAll.ofInts l)
end
section
variable {X : Cx} {rc : RC X.K}
theorem op_gtData (hu : X.A.units + 64 < cLine) : OpR X (compareOp .Gt) (fun x y H Q => ∃ d e, Dp X.K H x d ∧ Dp X.K H y e ∧ PySem.W.alike d e = true ∧ d ≠ .none ∧ d.depth ≤ 64 ∧ Q (.bl (PySem.W.dataLt e d)) H) := by
  intro pins s σ H x y v u Q I rx ry ⟨d, e, hd, he, ha, hn, hz, q⟩
  obtain ⟨as, r1⟩ := Dp.reads I d x v hd rx
  obtain ⟨bs, r2⟩ := Dp.reads I e y u he ry
  have hm : min d.depth e.depth ≤ d.depth := Nat.min_le_left _ _
  exact PySem.W.gt_data r1 r2 ha hn (by omega) ⟨.bl _, H, I, rfl, q⟩
def gtLD : D → D → Option D
  | .lst a, .lst b => match intsOf a, intsOf b with
    | some l, some m => some (.bl (decide (m < l)))
    | _, _ => none
  | _, _ => none
theorem alike_ints : ∀ l m : List Int, PySem.W.alikeAll (l.map .int) (m.map .int) = true
  | [], _ => by simp [PySem.W.alikeAll]
  | _ :: _, [] => by simp [PySem.W.alikeAll]
  | i :: l, j :: m => by
    rw [List.map_cons, List.map_cons, PySem.W.alikeAll, alike_ints l m]
    simp [PySem.W.alike]
theorem depth_ints : ∀ l : List Int, PyData.depthAll (l.map .int) ≤ 1
  | [] => by simp [PyData.depthAll]
  | i :: l => by
    have ih := depth_ints l
    simp [PyData.depthAll, PyData.depth]
    exact ih
theorem op_gtL (hu : X.A.units + 64 < cLine) : OpD X rc (compareOp .Gt) gtLD := by
  refine ⟨_, op_gtData hu, fun G H v u d e x Q s rv ru ex k => ?_⟩
  cases rv <;> first | (cases ex; done) | skip
  cases ru <;> first | (cases ex; done) | skip
  rename_i a xs ds ha hd b ys es hb he
  have ex' : (match intsOf ds, intsOf es with
    | some l, some m => some (D.bl (decide (m < l)))
    | _, _ => none) = some x := ex
  cases q1 : intsOf ds with
  | none => rw [q1] at ex'; cases ex'
  | some l =>
    cases q2 : intsOf es with
    | none => rw [q1, q2] at ex'; cases ex'
    | some m =>
      rw [q1, q2] at ex'
      cases ex'
      have e1 := intsOf_some q1
      have e2 := intsOf_some q2
      subst e1 e2
      have f1 := hd.ints
      have f2 := he.ints
      subst f1 f2
      refine ⟨.list (l.map .int), .list (m.map .int), .lst (SqL.of (s _ _ ha)) (DpAll.ofInts l), .lst (SqL.of (s _ _ hb)) (DpAll.ofInts m), ?_, (fun z => nomatch z), ?_, ?_⟩
      · rw [PySem.W.alike]; exact alike_ints l m
      · have := depth_ints l
        rw [PyData.depth]; omega
      · rw [PySem.W.dataLt_list]
        have z := PySem.W.dataLt_ints m l
        unfold PySem.W.rowLt at z
        rw [z]
        exact k _ G H (Grow.refl s) (.bl _)
def gtAD : D → D → Option D := fun d e => (gtD d e).or (gtLD d e)
theorem op_gtAD (hu : X.A.units + 64 < cLine) : OpD X rc (compareOp .Gt) gtAD := op_gtD.or (op_gtL hu)
end
/-! ### sum, all, any -/
section
variable {X : Cx} {rc : RC X.K}
theorem cr_sumT (hc : X.calm = true) : CallR X (.builtin "sum") (fun vs H Q => ∃ (a : Addr) (ns : List Int), vs = [V.ref a] ∧ SqT X.K H a (ns.map V.int) ∧ Q (.int ns.sum) H) := by
  intro pins s σ H vs us Q I r ⟨a, ns, e, hs, q⟩
  subst e
  obtain ⟨its, rv, hl, _⟩ := I.tuple hs
  rw [Vals.ref1 r]
  have hi := rv.ints
  obtain ⟨xs, ex⟩ := hi.allInts.items
  have hn : numsOf (intItems xs).toList = ns := by rw [← ex]; exact hi.numsOf
  rw [nums_intItems] at hn
  have hl' : s.heap.IsTuple a (intItems xs) := by rw [← ex]; exact hl
  refine PySem.W.ktm_sumG (I.ok.hd hc) hl' fun h' tk t' hk => ⟨.int _, H, I.kept hk, ⟨t', by rw [preSum_eq, List.take_of_length_le (by simp), hn]⟩, q⟩
def sumD : D → Option D
  | .lst ds => (intsOf ds).map fun l => .int l.sum
  | .tup ds => (intsOf ds).map fun l => .int l.sum
  | _ => none
theorem c_sum (hc : X.calm = true) : CallP X rc (.builtin "sum") sumD := by
  refine ⟨_, (cr_sum hc).or (cr_sumT hc), fun G H v d x Q s rv ex k => ?_⟩
  cases d with
  | lst ds =>
    obtain ⟨a, xs, rfl, h, r⟩ := rv.lst s
    have ex' : (intsOf ds).map (fun l => D.int l.sum) = some x := ex
    cases q : intsOf ds with
    | none => rw [q] at ex'; cases ex'
    | some l =>
      rw [q] at ex'
      cases ex'
      have e1 := intsOf_some q
      subst e1
      have f1 := r.ints
      subst f1
      exact .inl ⟨a, l, rfl, SqL.of h, k _ G H (Grow.refl s) (.int _)⟩
  | tup ds =>
    obtain ⟨a, xs, rfl, _, h, r⟩ := rv.tup s
    have ex' : (intsOf ds).map (fun l => D.int l.sum) = some x := ex
    cases q : intsOf ds with
    | none => rw [q] at ex'; cases ex'
    | some l =>
      rw [q] at ex'
      cases ex'
      have e1 := intsOf_some q
      subst e1
      have f1 := r.ints
      subst f1
      exact .inr ⟨a, l, rfl, h, k _ G H (Grow.refl s) (.int _)⟩
  | _ => cases ex
def blsOf : List D → Option (List Bool)
  | [] => some []
  | .bl i :: r => (blsOf r).map (i :: ·)
  | _ :: _ => none
theorem blsOf_map (l : List Bool) : blsOf (l.map .bl) = some l := by
  induction l with
  | nil => rfl
  | cons i l ih => rw [List.map_cons]; unfold blsOf; rw [ih]; rfl
theorem blsOf_some : ∀ {ds : List D} {l : List Bool}, blsOf ds = some l → ds = l.map .bl
  | [], l, h => by cases h; rfl
  | d :: ds, l, h => by
    cases d with
    | bl i =>
      have h' : (blsOf ds).map (i :: ·) = some l := h
      cases q : blsOf ds with
      | none => rw [q] at h'; cases h'
      | some m => rw [q] at h'; cases h'; rw [List.map_cons, ← blsOf_some q]
    | _ => cases h
theorem Reps.bls {K : PySem.W.Frag} {rc : RC K} {G : Hp} : ∀ {l : List Bool} {xs : List V}, Reps rc G xs (l.map .bl) → xs = l.map V.bl
  | [], _, .nil => rfl
  | i :: l, _, .cons (.bl _) r => by rw [List.map_cons, Reps.bls r]
def allD : D → Option D
  | .lst ds => (blsOf ds).map fun l => .bl (l.all id)
  | _ => none
def anyD : D → Option D
  | .lst ds => (blsOf ds).map fun l => .bl (l.any id)
  | _ => none
theorem c_all (hc : X.calm = true) : CallP X rc (.builtin "all") allD := by
  refine ⟨_, cr_all hc, fun G H v d x Q s rv ex k => ?_⟩
  cases d with
  | lst ds =>
    obtain ⟨a, xs, rfl, h, r⟩ := rv.lst s
    have ex' : (blsOf ds).map (fun l => D.bl (l.all id)) = some x := ex
    cases q : blsOf ds with
    | none => rw [q] at ex'; cases ex'
    | some l =>
      rw [q] at ex'
      cases ex'
      have e1 := blsOf_some q
      subst e1
      have f1 := r.bls
      subst f1
      exact ⟨a, l, rfl, SqL.of h, k _ G H (Grow.refl s) (.bl _)⟩
  | _ => cases ex
theorem c_any (hc : X.calm = true) : CallP X rc (.builtin "any") anyD := by
  refine ⟨_, cr_any hc, fun G H v d x Q s rv ex k => ?_⟩
  cases d with
  | lst ds =>
    obtain ⟨a, xs, rfl, h, r⟩ := rv.lst s
    have ex' : (blsOf ds).map (fun l => D.bl (l.any id)) = some x := ex
    cases q : blsOf ds with
    | none => rw [q] at ex'; cases ex'
    | some l =>
      rw [q] at ex'
      cases ex'
      have e1 := blsOf_some q
      subst e1
      have f1 := r.bls
      subst f1
      exact ⟨a, l, rfl, SqL.of h, k _ G H (Grow.refl s) (.bl _)⟩
  | _ => cases ex
/-! ### isinstance, a built-in type -/
def tyD : D → Option String
  | .non => some "NoneType"
  | .bl _ => some "bool"
  | .int _ => some "int"
  | .str _ => some "str"
  | .tup _ => some "tuple"
  | .lst _ => some "list"
  | .scr _ => some "list"
  | _ => none
/-- T's answers, by the names of the types -/
def isTD (tab : List (String × Bool)) : D → Option D := fun d => (tyD d).bind fun t => (tab.lookup t).map .bl
theorem PRep.ty {G H : Hp} {v : V} {d : D} {t : String} (s : Same G H) (rv : PRep rc G H v d) (h : tyD d = some t) : TyX X.K H v (.type t) := by
  have sqL : ∀ {a : Addr} {xs : List V}, SqL X.K H a xs → TyX X.K H (.ref a) (.type "list") := fun h => by
    rcases h with (h | ⟨o, h⟩) | ⟨o, its, n, h1, h2, _⟩
    · exact .base (.lst h)
    · exact .base (.frz h)
    · exact .kList h1 h2
  have sqT : ∀ {a : Addr} {xs : List V}, SqT X.K H a xs → TyX X.K H (.ref a) (.type "tuple") := fun h => by
    rcases h with (h | ⟨o, h⟩) | ⟨o, its, n, h1, h2, _⟩
    · exact .base (.tup h)
    · exact .fTuple h
    · exact .kTuple h1 h2
  cases d with
  | non => cases h; rw [rv.non]; exact .base .non
  | bl b => cases h; rw [rv.bl]; exact .base (.bl _)
  | int b => cases h; rw [rv.int]; exact .base (.int _)
  | str b => cases h; rw [rv.str]; exact .base (.str _)
  | tup ds =>
    cases h
    obtain ⟨a, xs, rfl, _, h, r⟩ := rv.tup s
    exact sqT h
  | lst ds =>
    cases h
    obtain ⟨a, xs, rfl, h, r⟩ := rv.lst s
    exact .base (.lst h)
  | scr ds =>
    cases h
    obtain ⟨a, xs, rfl, h, r⟩ := rv.scr s
    exact sqL h
  | _ => cases h
/-- the table of T's answers -/
def TabOk (T : String) (tab : List (String × Bool)) : Prop := ∀ t b, tab.lookup t = some b → kitB t T = some b
theorem tab_nil {T : String} : TabOk T [] := fun t b h => by cases h
theorem tab_cons {T t : String} {b : Bool} {tab : List (String × Bool)} (h : kitB t T = some b) (r : TabOk T tab) : TabOk T ((t, b) :: tab) := fun t' b' e => by
  rw [List.lookup_cons] at e
  cases q : t' == t with
  | true =>
    rw [q] at e
    cases e
    rw [eq_of_beq q]
    exact h
  | false => rw [q] at e; exact r t' b' e
variable {en : En} {W : WX} {a : Expr} {pos p p2 : Pos} {fa : DE}
theorem pu_isT {T : Str} {n : String} {tab : List (String × Bool)} (hg : Gl X "isinstance") (hm : X.mg "isinstance" = none) (ha : PE X a (tP rc en W fa)) (hgT : Gl X T) (hmT : X.mg T = none) (hv : bootBuiltins T = some (.type n)) (ht : TabOk n tab)
    (hnT : T ≠ "__name__" := by decide) (hdT : (T == ("__debug__" : Str)) = false := by decide)
    (hs1 : starEach [a, .Name T p2] X.env = (false, eval a X.env) :: starEach [.Name T p2] X.env := by rfl) (hs2 : starEach [.Name T p2] X.env = (false, eval (.Name T p2) X.env) :: starEach [] X.env := by rfl) (hpl : (backTo pos (starEach [.Name T p2] X.env)).any (·.1) = false := by rfl) :
    PE X (.Call (.Name "isinstance" p) [a, .Name T p2] [] pos) (tU rc en W (dCall1 (isTD tab) fa)) := by
  have hT : PE X (.Name T p2) (tC (.ty n)) := pe_bltn hgT hmT hv rfl hnT hdT
  refine (pe_callB call_isi hg hm (by rfl) (pa_cons ha (pa_cons hT pa_nil hs2) hs1) (by decide) (by decide) hs1 hpl).imp fun σ H Q ⟨G, st, R, q⟩ => ⟨G, st, R, (Ends3.bind q).imp fun d st1 G1 H1 s1 R1 q1 v rv => ?_⟩
  obtain ⟨y, ey, k⟩ := Ends3.opt q1
  unfold isTD at ey
  cases e1 : tyD d with
  | none => rw [e1] at ey; cases ey
  | some t =>
    rw [e1] at ey
    cases e2 : tab.lookup t with
    | none => simp [e2] at ey
    | some b =>
      simp [e2] at ey
      subst ey
      exact ⟨v, .ty n, .type t, .type n, b, rfl, .ty n, rv.ty R1.gh e1, kit_ty (ht t b e2), k G1 H1 (L2.Same.refl _) R1 _ (.bl _)⟩
/-! ### range(a, b, -1) -/
def downD (lo hi : Int) : List D := (List.range (lo - hi).toNat).map fun i => D.int (lo - (i : Nat))
def iR3 (fl : DA) : DA := fun st => (fl st).bind fun ds st' => match ds with
  | [.int i, .int j, .int k] => if k = -1 ∧ okR i = true ∧ okR j = true then .ok (downD i j) st' else .stuck
  | _ => .stuck
theorem YD.down {Gb : Hp} {lo : Int} {n : Nat} : YD (X := X) rc Gb ((List.range n).map fun i => D.int (lo - (i : Nat))) (Itc lo (-1) n) := by
  have hw : Walk (Itc lo (-1) n) n (fun _ => True) (YFn fun i => .int (lo - (i : Nat))) := ⟨fun _ _ hi _ => hi, fun _ _ => Nat.le_refl _, fun i H x H' hi _ y => by
    obtain ⟨e, rfl⟩ := y
    subst e
    refine ⟨rfl, ?_⟩
    have e : lo - (i : Int) = lo + (i : Int) * -1 := by omega
    show V.int (lo + (i : Int) * -1) = V.int (lo - (i : Int))
    rw [e]⟩
  refine ⟨fun _ => True, YFn fun i => .int (lo - (i : Nat)), by rw [List.length_map, List.length_range]; exact hw, fun _ _ _ _ => trivial, fun i G H x H' hi s1 s2 y => ?_⟩
  obtain ⟨rfl, rfl⟩ := y
  have hi' : i < n := by simpa using hi
  exact ⟨.int (lo - (i : Nat)), by simp [hi'], G, Grow.refl s2, .int _⟩
theorem w_range3 {tg b c : Expr} {fl : DA} (hm : X.mg "range" = none) (ha : PA X [a, b, c] (tL rc en W fl)) (hg : Gl X "range" := by rfl) (hs : starEach [a, b, c] X.env = (false, eval a X.env) :: starEach [b, c] X.env := by rfl) (hpl : (backTo pos (starEach [b, c] X.env)).any (·.1) = false := by rfl) :
    PI X tg (.Call (.Name "range" p) [a, b, c] [] pos) (tI rc en W (iR3 fl)) := (pi_range3 hg hm ha hs hpl).imp fun σ H R' ⟨G, st, R, h⟩ => ⟨G, st, R, (Ends3.bind h).imp fun ds st1 G1 H1 s1 R1 h1 vs rvs => by
  split at h1
  · rename_i i j k
    by_cases z : k = -1 ∧ okR i = true ∧ okR j = true
    · rw [if_pos z] at h1
      obtain ⟨rfl, z1, z2⟩ := z
      cases rvs with
      | cons r1 r2 =>
        cases r2 with
        | cons r2 r3 =>
          cases r3 with
          | cons r3 r4 =>
            cases r4
            cases r1
            cases r2
            cases r3
            obtain ⟨a1, a2⟩ := okR_of z1
            obtain ⟨a3, a4⟩ := okR_of z2
            exact ⟨i, j, -1, (i - j).toNat, rfl, RgC.neg a1 a2 a3 a4, h1 G1 H1 (L2.Same.refl _) R1 _ YD.down⟩
    · rw [if_neg z] at h1; exact h1.elim
  · exact h1.elim⟩
end
end U
set_option maxRecDepth 100000
set_option maxHeartbeats 2000000
/-! PL10: enumerate over a tuple. -/
namespace U
open PySem PySem.Spec PyProof.Rows L2
open AutoSeq1 (wpAny_loadPart')
theorem enum1_meets {v : Value} {o : Obj} {Z : Heap → Prop} (B : Begins v o Z) :
    Meets (Builtin.«enumerate.__new__» ⟨[.type "enumerate", v], []⟩) (fun _ R s => Z s.heap ∧
      R (.ok (.ret (.ref (s.heap.push o).objs.size))) { s with heap := (s.heap.push o).push { cls := .type "enumerate", data := .fields #[.none, .bool false, .ref s.heap.objs.size, rawInt 0, .none, .none] } }) :=
  .of_wp fun prog w A R s hz => by
    obtain ⟨hp, gs, dr, tk, os⟩ := s
    obtain ⟨h0, hz⟩ := hz
    have hsub := sub_enumerate
    have it : ∀ {A' : Around} {E : Value → Shared → Prop} {Q : Value → Shared → Prop}, Q (.ref hp.objs.size) ⟨hp.push o, gs, dr, tk, os⟩ → wpAny (model prog w) A' (pyIter v) Q E ⟨hp, gs, dr, tk, os⟩ := fun q => B.iter prog w _ _ ⟨hp, gs, dr, tk, os⟩ _ h0 q
    wp_walk using it
    refine wpAny_stack_any fun st => wpAny_pure ?_
    split
    · rename_i c _ _ _ _ _
      cases (c == Value.type "enumerate") <;> (wp_walk using it; exact ⟨_, rfl, hz⟩)
    · wp_walk using it
      exact ⟨_, rfl, hz⟩
theorem enum1_call {prog : Program} {w : World} {A : Around} {E : Value → Shared → Prop} {s : Shared} {v : Value} {o : Obj} {Z : Heap → Prop} {Q : Value → Shared → Prop} (B : Begins v o Z) (h0 : Z s.heap)
    (h : ∀ h', IsEnum h' (s.heap.objs.size + 1) s.heap.objs.size 0 .none → h'.get? s.heap.objs.size = some o → (∀ b u, s.heap.get? b = some u → h'.get? b = some u) → Q (.ref (s.heap.objs.size + 1)) { s with heap := h' }) :
    wpAny (model prog w) A (call (.type "enumerate") [v]) Q E s := by
  have sz : (s.heap.push o).objs.size = s.heap.objs.size + 1 := Heap.size_push ..
  refine callType_new F.called_enumerate (by decide) (F.typeCall_enumerate_1 _) (F.newCall_enumerate_1 _) (fun obj => F.args_object_init_2 obj _) F.entry_enumerate_new (enum1_meets B) ⟨h0, ?_⟩
  show _ ∧ _
  have he : IsEnum ((s.heap.push o).push { cls := .type "enumerate", data := .fields #[.none, .bool false, .ref s.heap.objs.size, rawInt 0, .none, .none] }) (s.heap.objs.size + 1) s.heap.objs.size 0 .none := by
    have z := Heap.get?_push_size (s.heap.push o) (o := { cls := .type "enumerate", data := .fields #[.none, .bool false, .ref s.heap.objs.size, rawInt 0, .none, .none] }) rfl
    rw [sz] at z
    exact z
  rw [sz]
  exact ⟨⟨_, he, rfl⟩, h _ he (Heap.get?_push_of_some _ (Heap.get?_push_size _ B.free)) fun b u q => Heap.get?_push_of_some _ (Heap.get?_push_of_some _ q)⟩
/-- the tuple at a, each item in a new pair -/
def ItT (K : PySem.W.Frag) (a : Addr) (xs : List V) : It :=
  ⟨fun i H => SqT K H a xs ∧ i < xs.length, fun i H v H' => ∃ T x, v = .ref T ∧ H T = none ∧ H' = upd H T (.tup [.int (i : Nat), x]) ∧ xs[i]? = some x, fun i H => SqT K H a xs ∧ i = xs.length⟩
theorem turn_enumT {P : Program} {w : World} {K : PySem.W.Frag} {elts : List Expr} {kk : Nat} {tpos : Pos} {a e it : Addr} {xs : List V} (n1 : e ≠ it) (n2 : a ≠ it) (n3 : e ≠ a) :
    Turn P w K (.Tuple elts kk tpos) (ItT K a xs) [e, it] e (fun i h => (∃ old, IsEnum h e it ((i : Nat) : Int) old) ∧ h.IsTupleIter it a i) where
  mem := by simp
  obj := fun i h st b hb => by
    obtain ⟨⟨old, he⟩, o, ho, hc, hd⟩ := st
    rcases List.mem_cons.mp hb with rfl | hb
    · exact ⟨_, he, fun v q => nomatch q⟩
    · rw [List.mem_singleton.mp hb]
      exact ⟨o, ho, fun v q => by rw [hd] at q; cases q⟩
  keep := fun i h h' st k => by
    obtain ⟨⟨old, he⟩, o, ho, r⟩ := st
    exact ⟨⟨old, k e (by simp) _ he⟩, o, k it (by simp) _ ho, r⟩
  item := by
    intro X hP hw hK hc i pins s σ H E I hf st hg
    subst hP hw hK
    obtain ⟨⟨old, he⟩, hit⟩ := st
    obtain ⟨hq, hi⟩ := hg
    obtain ⟨its, rv, p, _⟩ := I.tuple hq
    have hl := rv.length
    have nef : e ∉ [it, a] := by simp [n1, n3]
    refine wpAny_pyNext_enum_itemD (Draws.tuple (A := X.A.in1) (I.ok.hd hc) it a n2 its.toArray) he ⟨hit, p⟩ (by simp; omega) n1 nef fun x h' tk hx ho st' hT hsz hk => ?_
    have hx' : its[i]? = some x := by simpa using hx
    obtain ⟨y, hy, ry⟩ : ∃ y, xs[i]? = some y ∧ RelV y x := by
      obtain ⟨u, hu, ru⟩ := rv.get (List.getElem?_eq_getElem hi)
      rw [hx'] at hu
      cases hu
      exact ⟨_, List.getElem?_eq_getElem hi, ru⟩
    have le : e < s.heap.objs.size := Heap.lt_size he
    have li : it < s.heap.objs.size := by obtain ⟨_, q, _⟩ := hit; exact Heap.lt_size q
    refine ⟨_, rfl, wpAny_letOwnedTupleGo_enum (s := { s with heap := h', toks := tk + 1 }) ho fun h2 he2 sb => ?_⟩
    have hT2 : h2.get? s.heap.objs.size = some { cls := .type "tuple", data := .seq #[.int i tk, x] } := (sb.2 _ (Nat.ne_of_gt le)).trans hT
    have new : ObjOk X.prog X.w (upd H s.heap.objs.size (.tup [.int (i : Nat), y])) h2 s.heap.objs.size (.tup [.int (i : Nat), y]) :=
      ⟨by show 2 ≤ sizeLine; decide, [.int i tk, x], .cons ⟨_, rfl⟩ (.cons ry .nil), ⟨_, hT2, rfl, _, rfl⟩⟩
    have J : Inv X pins σ (upd H s.heap.objs.size (.tup [.int (i : Nat), y])) { s with heap := h2, toks := tk + 1 } :=
      I.turnedNew (ch := [e, it]) (fun b u hb q => (sb.2 b (fun z => hb (by simp [z]))).trans (hk b u (fun z => hb (by simp [z])) (fun z => hb (by simp [z])) q)) hf (Nat.le_refl _) new
    refine ⟨.ref s.heap.objs.size, _, J, rfl, ⟨_, y, rfl, I.hok.fresh (Nat.le_refl _), rfl, hy⟩, ⟨⟨x, ?_⟩, ?_⟩, fun b hb => ?_⟩
    · have e1 : ((i + 1 : Nat) : Int) = (i : Int) + 1 := by omega
      rw [e1]; exact he2
    · obtain ⟨o, q1, q2⟩ := st'.1
      exact ⟨o, (sb.2 it (Ne.symm n1)).trans q1, q2⟩
    · have lb : b < s.heap.objs.size := by
        rcases List.mem_cons.mp hb with rfl | hb'
        · exact le
        · rw [List.mem_singleton.mp hb']; exact li
      rw [upd_ne (Nat.ne_of_lt lb)]
      exact (hf b hb).1
  done := by
    intro X hP hw hK hc i pins s σ H E I hf st hg
    subst hP hw hK
    obtain ⟨⟨old, he⟩, hit⟩ := st
    obtain ⟨hq, hi⟩ := hg
    obtain ⟨its, rv, p, _⟩ := I.tuple hq
    have hl := rv.length
    have ei : i = its.toArray.size := by simp; omega
    obtain ⟨f0, f1, f2, f3, f4, f5⟩ := hf it (by simp)
    exact wpAny_pyNext_enum_endD (Draws.tuple (A := X.A.in1) (I.ok.hd hc) it a n2 its.toArray) he ⟨by rw [← ei]; exact hit, p⟩ fun h' eb => ⟨rfl, I.turned (t' := s.toks) (fun b u hb q => eb b u hb q) f0 f1 f3 f4 f5⟩
  self := fun A i s Q E st h => by
    obtain ⟨⟨_, he⟩, _⟩ := st
    exact wpAny_pyIter_enum he h
section
variable {X : Cx} {rc : RC X.K} {en : En} {W : WX} {a : Expr} {pos p tpos : Pos} {fa : DE} {elts : List Expr} {kk : Nat}
theorem pi_enumT {ta : TA} (hm : X.mg "enumerate" = none) (ha : PA X [a] ta) (hg : Gl X "enumerate" := by rfl) (hs : starEach [a] X.env = [(false, eval a X.env)] := by rfl) :
    PI X (.Tuple elts kk tpos) (.Call (.Name "enumerate" p) [a] [] pos) (fun σ H R => ta σ H fun vs H1 => ∃ b xs, vs = [.ref b] ∧ SqT X.K H1 b xs ∧ R (ItT X.K b xs) H1) := by
  refine ⟨fun pins s σ H R I h => ?_⟩
  refine Call_ (ld_blt I hg hm boot_enumerate (PyProof.Rows.callWith_type1 (thn (ha.run pos pins s σ H _ I h) fun us s1 ⟨vs, H1, I1, r1, b, xs, ex, hq, q⟩ => ?_) hs rfl))
  subst ex
  cases r1 with
  | cons r rr =>
    cases rr
    cases r
    obtain ⟨its, rv, pt, _⟩ := I1.tuple hq
    have hb : b < s1.heap.objs.size := by obtain ⟨_, z, _⟩ := id pt; exact Heap.lt_size z
    refine enum1_call (begins_tuple b its.toArray) pt fun h' he hit hk => wpAny_pyIter_enum he ?_
    have I2 : Inv X pins σ H1 { s1 with heap := h' } := I1.kept (t' := s1.toks) hk
    refine ⟨s1.heap.objs.size + 1, [s1.heap.objs.size + 1, s1.heap.objs.size], _, _, H1, rfl, I2, turn_enumT (a := b) (xs := xs) (Nat.succ_ne_self _) (Nat.ne_of_lt hb) (Nat.ne_of_gt (Nat.lt_succ_of_lt hb)), ⟨⟨.none, he⟩, _, hit, rfl, rfl⟩, fun c hc => ?_, q⟩
    have le : s1.heap.objs.size ≤ c := by
      rcases List.mem_cons.mp hc with rfl | hc
      · exact Nat.le_succ _
      · rw [List.mem_singleton.mp hc]; exact Nat.le_refl _
    exact I1.fpOk le (I1.hok.fresh le)
def enumD (ds : List D) : List D := ds.mapIdx fun i d => .tup [.int (i : Nat), d]
def iEn (fa : DE) : DA := fun st => (fa st).bind fun d st' => match d with
  | .tup ds => .ok (enumD ds) st'
  | _ => .stuck
theorem YD.enumT {Gb : Hp} {b : Addr} {xs : List V} {ds : List D} (hs : SqT X.K Gb b xs) (r : Reps rc Gb xs ds) : YD rc Gb (enumD ds) (ItT X.K b xs) := by
  have hl : (enumD ds).length = xs.length := by rw [r.length]; simp [enumD]
  refine ⟨fun H => SqT X.K H b xs, (ItT X.K b xs).yld, by rw [hl]; exact ⟨fun i H hi h => ⟨h, hi⟩, fun H h => ⟨h, rfl⟩, fun i H x H' _ _ y => y⟩, fun G H s1 s2 => Same.seqT (s1.trans s2) hs, fun i G H v H' hi s1 s2 y => ?_⟩
  obtain ⟨T, x, rfl, hT, rfl, hx⟩ := y
  obtain ⟨d, hd, rx⟩ := r.get hx
  have g := Grow.new (o := .tup [.int (i : Nat), x]) s2 hT
  exact ⟨.tup [.int (i : Nat), d], by unfold enumD; rw [List.getElem?_mapIdx, hd]; rfl, _, g, .tup (SqT.of upd_same) (.cons (.int _) (.cons ((rx.mono s1).mono g.g) .nil))⟩
theorem w_enumT (hm : X.mg "enumerate" = none) (ha : PE X a (tU rc en W fa)) (hg : Gl X "enumerate" := by rfl) (hs : starEach [a] X.env = [(false, eval a X.env)] := by rfl) :
    PI X (.Tuple elts kk tpos) (.Call (.Name "enumerate" p) [a] [] pos) (tI rc en W (iEn fa)) := (pi_enumT hm (pa_cons ha pa_nil hs) hg hs).imp fun σ H R' ⟨G, st, R, h⟩ => ⟨G, st, R, (Ends3.bind h).imp fun d st1 G1 H1 s1 R1 h1 v rv => by
  cases rv <;> first | exact h1.elim | skip
  rename_i b xs ds hs r
  exact ⟨b, xs, rfl, Same.seqT R1.gh hs, h1 G1 H1 (L2.Same.refl _) R1 _ (YD.enumT hs r)⟩⟩
end
end U
set_option maxRecDepth 100000
set_option maxHeartbeats 4000000
/-! PL11: raise of an own error whose __init__ only stores its arguments. -/
namespace U
open PySem PySem.Spec PyProof.Rows L2
/-- the error at a while its fields are stored: fs so far -/
def IS (C a : Addr) (H0 : Hp) (fs : List (Str × V)) (H : Hp) : Prop :=
  (fs = [] ∧ H = H0) ∨ ∃ dx, dx ≠ a ∧ H0 dx = none ∧ H a = some (exo a C (some dx)) ∧ H dx = some (exd dx fs) ∧ ∀ b, b ≠ a → b ≠ dx → H b = H0 b
def inFin (σ : L2.St) : List (Str × Nat) → List (Str × V) → Option (List (Str × V))
  | [], acc => some acc
  | (f, j) :: r, acc => match σ[j]? with
    | some (some y) => inFin σ r ((f, y) :: acc)
    | _ => none
/-- self.f = y, .. , each name's slot -/
def tIS (K : PySem.W.Frag) (C : Addr) (rest : List (Str × Nat)) : TS := fun D σ H => ∃ a H0 fs gs, σ[0]? = some (some (.ref a)) ∧ OexC K C ∧ (∀ p ∈ rest, PySem.W.findIn K (.ref C) p.1 = some none) ∧ fs.length + rest.length ≤ 900 ∧ H0 a = some (exo a C none) ∧ IS C a H0 fs H ∧ inFin σ rest fs = some gs ∧ ∀ H', IS C a H0 gs H' → D.nx σ H'
section
variable {X : Cx} {C : Addr}
theorem in_nil : PSs X [] (tIS X.K C []) := pss_nil.imp fun D σ H ⟨a, H0, fs, gs, _, _, _, _, _, h, e, k⟩ => by
  cases e
  exact k H h
theorem in_cons {f s0 x : Str} {j : Nat} {p1 p2 p3 p4 : Pos} {r : List (Str × Nat)} {rest : List Stmt} (hr : PSs X rest (tIS X.K C r)) (h0 : X.N[0]? = some s0 := by rfl) (hj : X.N[j]? = some x := by rfl) (v0 : Vis X.env.scope s0 := by first | exact Or.inl rfl | exact Or.inr (Or.inl rfl)) (vj : Vis X.env.scope x := by first | exact Or.inl rfl | exact Or.inr (Or.inl rfl))
    (d0 : (s0 == ("__debug__" : Str)) = false := by decide) (c0 : (s0 == ("__classdict__" : Str)) = false := by decide) (dj : (x == ("__debug__" : Str)) = false := by decide) (cj : (x == ("__classdict__" : Str)) = false := by decide)
    (hs : swapsWith (.Name x p4) (some (.Attribute (.Name s0 p1) f p2)) p3.line X.env = pure false := by rfl) : PSs X (.Assign [.Attribute (.Name s0 p1) f p2] (.Name x p4) p3 :: rest) (tIS X.K C ((f, j) :: r)) := (pss_cons (ps_ost (pe_var h0 v0 d0 c0) (pe_var hj vj dj cj) hs) hr).imp fun D σ H ⟨a, H0, fs, gs, ea, T, hno, hl, hH, h, e, k⟩ => by
  unfold inFin at e
  cases q : σ[j]? with
  | none => rw [q] at e; cases e
  | some o =>
    cases o with
    | none => rw [q] at e; cases e
    | some y =>
      rw [q] at e
      have go : ∀ H', IS C a H0 ((f, y) :: fs) H' → tIS X.K C r D σ H' := fun H' h' => ⟨a, H0, (f, y) :: fs, gs, ea, T, fun p hp => hno p (List.mem_cons_of_mem _ hp), by simp only [List.length_cons] at hl ⊢; omega, hH, h', e, k⟩
      refine ⟨y, q, .ref a, ea, a, C, rfl, T, hno (f, j) List.mem_cons_self, ?_⟩
      rcases h with ⟨rfl, rfl⟩ | ⟨dx, n, n0, h1, h2, h3⟩
      · refine .inl ⟨hH, fun dx hn hd => go _ (.inr ⟨dx, hd, hn, upd_same, ?_, fun b hb hb2 => ?_⟩)⟩
        · rw [upd_ne hd, upd_same]
        · rw [upd_ne hb, upd_ne hb2]
      · refine .inr ⟨dx, fs, h1, h2, by simp only [List.length_cons] at hl; omega, go _ (.inr ⟨dx, n, n0, ?_, upd_same, fun b hb hb2 => ?_⟩)⟩
        · rw [upd_ne (Ne.symm n)]; exact h1
        · rw [upd_ne hb2]; exact h3 b hb hb2
end
/-- the names and their slots -/
def inR : Nat → List Str → List (Str × Nat)
  | _, [] => []
  | j, f :: fs => (f, j) :: inR (j + 1) fs
theorem inR_len : ∀ (j : Nat) (fs : List Str), (inR j fs).length = fs.length
  | _, [] => rfl
  | j, _ :: fs => congrArg (· + 1) (inR_len (j + 1) fs)
theorem inR_mem : ∀ (j : Nat) (fs : List Str) {p : Str × Nat}, p ∈ inR j fs → p.1 ∈ fs
  | _, [], _, h => by cases h
  | j, f :: fs, p, h => by
    rcases List.mem_cons.mp h with rfl | h
    · exact List.mem_cons_self
    · exact List.mem_cons_of_mem _ (inR_mem (j + 1) fs h)
theorem inR_fin {σ : L2.St} : ∀ (fs : List Str) (ys : List V) (j : Nat) (acc : List (Str × V)), ys.length = fs.length → (∀ i v, ys[i]? = some v → σ[j + i]? = some (some v)) → inFin σ (inR j fs) acc = some ((fs.zip ys).reverse ++ acc)
  | [], [], _, _, _, _ => rfl
  | [], _ :: _, _, _, h, _ => by cases h
  | _ :: _, [], _, _, h, _ => by cases h
  | f :: fs, y :: ys, j, acc, h, hy => by
    have e : σ[j]? = some (some y) := by simpa using hy 0 y rfl
    unfold inR inFin
    rw [e]
    have ih := inR_fin fs ys (j + 1) ((f, y) :: acc) (by simpa using h) (fun i v hi => by
      have z := hy (i + 1) v (by simpa using hi)
      rwa [show j + 1 + i = j + (i + 1) by omega])
    dsimp only
    rw [ih]
    simp
/-- the promise of such an __init__ -/
def initSp (K : PySem.W.Frag) (C : Addr) (fns : List Str) : Sp := fun vs H Q E => ∃ a ys, vs = .ref a :: ys ∧ ys.length = fns.length ∧ OexC K C ∧ (∀ f ∈ fns, PySem.W.findIn K (.ref C) f = some none) ∧ fns.length ≤ 900 ∧ H a = some (exo a C none) ∧ ∀ H', IS C a H ((fns.zip ys).reverse) H' → Q .non H'
section
variable {P : Program} {w : World} {K : PySem.W.Frag} {mg : Str → Option Value} {base : Heap} {CX : CXT}
theorem fnInit {x qual : Str} {params : Arguments} {body : List Stmt} {scope : Scope} {f : Addr} {fd : FuncData} {N fns ps : List Str} {k : Nat} {C : Addr} (Fd : FunD K x qual params body scope [] [] f fd) (S : FnScope N ps scope) (hl : ps.length = fns.length + 1)
    (hbody : ∀ (cdv : Value) (A : Around) (outer : List Env) (s : Shared) (H : Hp) (E : XK), PSs (cxOf CX P w K mg base N qual scope f cdv A outer s H E) body (tIS K C (inR 1 fns))) : FnOk P w K mg base CX (k + 1) f fd ps (initSp K C fns) := by
  refine Fd.ok S (fun vs H Q E ⟨a, ys, e, h1, _⟩ => by rw [e, List.length_cons, h1, hl]) (fun cdv A outer s H vs Q E hr ⟨a, ys, e, h1, T, hno, hz, ha, q⟩ => ?_)
  subst e
  have hpl : ps.length ≤ N.length := by have := congrArg List.length S.pre; rw [List.length_take] at this; omega
  have at_ : ∀ i v, (V.ref a :: ys)[i]? = some v → (L2.start N (.ref a :: ys))[i]? = some (some v) := fun i v e => by
    unfold L2.start
    have hi : i < (V.ref a :: ys).length := (List.getElem?_eq_some_iff.mp e).1
    rw [List.getElem?_append_left (by rw [List.length_map]; exact hi), List.getElem?_map, e]
    rfl
  refine ⟨_, hbody cdv A outer s H E, a, H, [], _, at_ 0 _ rfl, T, fun p hp => hno _ (inR_mem 1 fns hp), by rw [inR_len]; simp only [List.length_nil]; omega, ha, .inl ⟨rfl, rfl⟩, inR_fin fns ys 1 [] h1 (fun i v hi => ?_), fun H' h => ?_⟩
  · have z := at_ (i + 1) v (by simpa using hi)
    rwa [show 1 + i = i + 1 by omega]
  · rw [List.append_nil] at h
    exact q H' h
end
/-! ### C(e, ..) where no exception is handled, its context None -/
section
variable {X : Cx} {e : Expr} {es : List Expr} {ta : TA} {p pos : Pos} {C fI : Addr} {k : Nat} {fd : FuncData} {ps : List Str} {fns : List Str}
theorem no_pass : Passes (L2N.CX X.prog X.w) X (fun _ _ _ => False) := fun _ _ _ _ _ _ _ ⟨_, _, _, _, _, _, _, _, _, _, _, _, z⟩ => z.elim
def tMade (C : Addr) (fns : List Str) (ta : TA) : L2.St → Hp → XK → Prop := fun σ H Q => ta σ H fun vs H1 => vs.length = fns.length ∧ ∀ d, H1 d = none → Q (.ref C) (some d) (upd H1 d (.xd ((fns.zip vs).reverse)))
theorem pmk_init {x : Str} (T : OexC X.K C) (iC : PySem.W.findIn X.K (.ref C) "__init__" = some (some (.ref fI))) (tI : PySem.W.typeIn X.K (.ref fI) = some (.type "function")) (F1 : FnOk X.prog X.w X.K X.mg X.base (L2N.CX X.prog X.w) k fI fd ps (initSp X.K C fns)) (hn0 : fns ≠ []) (hf : ∀ f ∈ fns, PySem.W.findIn X.K (.ref C) f = some none) (hz : fns.length ≤ 900)
    (hr : Room (k + 1) X.A) (hb : Binds X.K fd ps []) (hg : Gl X x) (hm : X.mg x = some (.ref C)) (ha : PA X (e :: es) ta)
    (hdb : (x == ("__debug__" : Str)) = false := by decide) (he : starEach (e :: es) X.env = (false, eval e X.env) :: starEach es X.env := by rfl) (hpl : (backTo pos (starEach es X.env)).any (·.1) = false := by rfl) :
    L2N.PMk X (.Call (.Name x p) (e :: es) [] pos) (tMade C fns ta) := by
  intro pins s σ H Q I h
  obtain ⟨nm, qn, N, bs, bm, sn, sub, ab, col, dd, k0, k1, k2, k3, k5, hC, hbm⟩ := T.cls
  refine wpAny_Call_Name_kw (ld_glob I hg hm ?_ hdb)
  refine PySem.W.callWith_K (h₀ := X.base) I.ok.mod.kin T.kC (thn (ha.run pos pins s σ H _ I h) fun us sA ⟨vs, HA, IA, rA, hlen, hq⟩ => ⟨IA.kIn, ?_⟩) he hpl
  show wpAny _ _ (call (.ref C) us) _ _ _
  obtain ⟨hp, gs, dr, tk, os⟩ := sA
  have up1 : hp.objs.size ≤ hp.objs.size + 1 := Nat.le_add_right _ 1
  have free : HA (hp.objs.size + 1) = none := IA.hok.fresh up1
  have keeps : ∀ b o, hp.get? b = some o → ((hp.push (PySem.W.kdv_tup us)).push (PySem.HandSPX.excO C hp.objs.size)).get? b = some o := fun b o z => Heap.get?_push_of_some _ (Heap.get?_push_of_some _ z)
  have there : ((hp.push (PySem.W.kdv_tup us)).push (PySem.HandSPX.excO C hp.objs.size)).get? (hp.objs.size + 1) = some (PySem.HandSPX.excO C hp.objs.size) := by heap_get
  have IB : Inv X pins σ (upd HA (hp.objs.size + 1) (exo (hp.objs.size + 1) C none)) ⟨(hp.push (PySem.W.kdv_tup us)).push (PySem.HandSPX.excO C hp.objs.size), gs, dr, tk, os⟩ :=
    IA.laid (t' := tk) (a := hp.objs.size + 1) (o := exo (hp.objs.size + 1) C none) (h' := (hp.push (PySem.W.kdv_tup us)).push (PySem.HandSPX.excO C hp.objs.size)) keeps up1 (exo_ok there)
  have rB : Vals (V.ref (hp.objs.size + 1) :: vs) (Value.ref (hp.objs.size + 1) :: us) := .cons rfl rA
  have hlu : us.length = fns.length := by rw [← Paired.length rA, hlen]
  have hsp : initSp X.K C fns (V.ref (hp.objs.size + 1) :: vs) (upd HA (hp.objs.size + 1) (exo (hp.objs.size + 1) C none))
      (fun v H2 => v = .non ∧ IS C (hp.objs.size + 1) (upd HA (hp.objs.size + 1) (exo (hp.objs.size + 1) C none)) ((fns.zip vs).reverse) H2) (fun _ _ _ => False) :=
    ⟨_, vs, rfl, hlen, T, hf, hz, upd_same, fun H' z => ⟨rfl, z⟩⟩
  have lps : (Value.ref (hp.objs.size + 1) :: us).length = ps.length := by
    have z := F1.len _ _ _ _ hsp
    rw [← z, List.length_cons, List.length_cons, Paired.length rA]
  have bnd := hb ⟨(hp.push (PySem.W.kdv_tup us)).push (PySem.HandSPX.excO C hp.objs.size), gs, dr, tk, os⟩ (Value.ref (hp.objs.size + 1) :: us) IB.kIn (by rw [List.append_nil]; exact lps)
  rw [List.append_nil] at bnd
  refine wpAny_call (PySem.HandSPX.call_own F.excBase_ValueError (fun Y => PySem.HandSPX.refsVE_contains Y bm hbm) (IA.kIn _ _ hC) (PySem.W.looks_findIn IA.kIn iC) (fun self => PySem.W.bind_fn IA.kIn self tI) (by rw [hlu, sizeLine_eq]; omega)
    (codeAny_mono (F1.run _ X.stack _ _ ⟨Value.ref (hp.objs.size + 1) :: us, []⟩ (Value.ref (hp.objs.size + 1) :: us) _ _ (fun _ _ _ => False) (hr.make C us []) (IB.env0.make C us []) bnd rB hsp) fun r s' hq' => ?_))
  cases r with
  | error er => exact no_pass pins σ _ _ er s' IB hq'
  | ok fl =>
    cases fl with
    | next => exact False.elim hq'
    | brk => exact False.elim hq'
    | cont => exact False.elim hq'
    | ret u =>
      obtain ⟨v, H2, o2, bare2, un2, hok2, rv, ev, his⟩ := hq'
      subst ev
      obtain ⟨h2, g2, d2, t2, os'⟩ := s'
      have ne : ((fns.zip vs).reverse) ≠ [] := fun z => by
        have l := congrArg List.length z
        rw [List.length_reverse, List.length_zip, hlen, Nat.min_self, List.length_nil] at l
        exact hn0 (List.length_eq_zero_iff.mp l)
      rcases his with ⟨z, _⟩ | ⟨d, nda, d0, ea, ed, oth⟩
      · exact absurd z ne
      · have dn : HA d = none := by rw [upd_ne nda] at d0; exact d0
        obtain ⟨t0, G, J, kG, ge, hoe, na⟩ := mk_end0 (d2 := d2) (t2 := t2) IA up1 keeps un2 hok2 o2 bare2 ea ed dn
        have eqH : upd (del H2 (hp.objs.size + 1)) d (.xd ((fns.zip vs).reverse)) = upd HA d (.xd ((fns.zip vs).reverse)) := by
          funext b
          by_cases hbd : b = d
          · rw [hbd, upd_same, upd_same]
          · rw [upd_ne hbd, upd_ne hbd]
            by_cases hba : b = hp.objs.size + 1
            · rw [hba, del_same, free]
            · rw [del_ne hba, oth b hba hbd, upd_ne hba]
        rw [eqH] at J na
        exact ⟨rv, _, _, _, ⟨G, g2, d2, t2, os'⟩, _, .ref C, some d, rfl, J, kG, ge, hoe, ⟨rfl, rfl, fun vs' z => by cases z; rfl⟩, rfl, rfl, na, rfl, bare2, raises_own T.exC T.tyC, hq d dn⟩
end
/-! ### raise C(e, ..) -/
/-- the own error x -/
structure ExcK (X : Cx) (rc : RC X.K) (x : Str) (c : Nat) (fns : List Str) (k : Nat) : Prop where
  ex : ∃ fI fd ps, OexC X.K (rc.cm c) ∧ PySem.W.findIn X.K (.ref (rc.cm c)) "__init__" = some (some (.ref fI)) ∧ PySem.W.typeIn X.K (.ref fI) = some (.type "function") ∧ FnOk X.prog X.w X.K X.mg X.base (L2N.CX X.prog X.w) k fI fd ps (initSp X.K (rc.cm c) fns) ∧ Binds X.K fd ps []
  hm : X.mg x = some (.ref (rc.cm c))
  hf : ∀ f ∈ fns, PySem.W.findIn X.K (.ref (rc.cm c)) f = some none
  hn : fns ≠ []
  hz : fns.length ≤ 900
def sRaise (c : Nat) (fns : List Str) (fl : DA) : DS := fun st => (fl st).toS fun ds st' => if ds.length = fns.length then .exc ⟨c, (fns.zip ds).reverse⟩ st' else .stuck
theorem RepF.append {K : PySem.W.Frag} {rc : RC K} {G : Hp} : ∀ {fs gs : List (Str × V)} {ds es : List (Str × D)}, RepF rc G fs ds → RepF rc G gs es → RepF rc G (fs ++ gs) (ds ++ es)
  | _, _, _, _, .nil, s => s
  | _, _, _, _, .cons h r, s => .cons h (RepF.append r s)
theorem RepF.zip {K : PySem.W.Frag} {rc : RC K} {G : Hp} : ∀ (fns : List Str) {vs : List V} {ds : List D}, Reps rc G vs ds → RepF rc G ((fns.zip vs).reverse) ((fns.zip ds).reverse)
  | [], _, _, _ => .nil
  | _ :: _, _, _, .nil => .nil
  | f :: fns, _, _, .cons h r => by
    rw [List.zip_cons_cons, List.zip_cons_cons, List.reverse_cons, List.reverse_cons]
    exact (RepF.zip fns r).append (.cons h .nil)
section
variable {X : Cx} {rc : RC X.K} {en : En} {W : WX} {e : Expr} {es : List Expr} {p pos pos' : Pos}
theorem q_raise {x : Str} {c k : Nat} {fns : List Str} {fl : DA} (hc : X.calm = true) (tk : L2N.Takes X W) (E : ExcK X rc x c fns k) (hr : Room (k + 1) X.A) (ha : PA X (e :: es) (tL rc en W fl)) (hg : Gl X x := by rfl) (hdb : (x == ("__debug__" : Str)) = false := by decide) (he : starEach (e :: es) X.env = (false, eval e X.env) :: starEach es X.env := by rfl)
    (hpl : (backTo pos (starEach es X.env)).any (·.1) = false := by rfl) : PS X (.Raise (some (.Call (.Name x p) (e :: es) [] pos)) none pos') (tS rc en W (sRaise c fns fl)) := by
  obtain ⟨fI, fd, ps, T, iC, tI, F1, hb⟩ := E.ex
  refine (L2N.ps_raise hc tk (pmk_init T iC tI F1 E.hn E.hf E.hz hr hb hg E.hm ha hdb he hpl)).imp fun Dn σ H ⟨G, st, R, h⟩ => ⟨G, st, R, (EndS.of h).imp fun ds st1 G1 H1 s1 R1 h1 vs rvs => ?_⟩
  by_cases z : ds.length = fns.length
  · rw [if_pos z] at h1
    refine ⟨rvs.length.trans z, fun d hd => ?_⟩
    have g := Grow.newH (o := .xd ((fns.zip vs).reverse)) R1.gh hd
    exact h1 _ _ σ G1 _ (L2.Same.refl _) (R1.grow g) ⟨rfl, .inr ⟨d, _, rfl, upd_same, RepF.zip fns rvs⟩⟩
  · rw [if_neg z] at h1; exact h1.elim
end
end U
set_option maxRecDepth 100000
set_option maxHeartbeats 4000000
/-! PL12: while an exception is handled: the end of a list's walk, sum, comprehensions over lists, isinstance of the exception, its fields. -/
namespace U
open PySem PySem.Spec PyProof.Rows L2 L2H HotX
section
variable {prog : Program} {w : World} {A : Around} {E : Value → Shared → Prop} {s : Shared}
theorem list_end_hot {it l x1 : Addr} {i : Nat} {items : Array Value} {Q : Option Value → Shared → Prop} (hot : HotAt A x1 s.heap) (hit : s.heap.IsListIter it l i) (hl : s.heap.IsList l items) (hx : items[i]? = none)
    (hQ : ∀ h', (∀ b o, b ≠ it → s.heap.get? b = some o → h'.get? b = some o) → Q none { s with heap := h' }) : wpAny (model prog w) A (pyNext (.ref it)) Q E s := by
  obtain ⟨o, ho, hc, hd⟩ := id hit
  obtain ⟨ol, hol, _, nl, hdl⟩ := hl
  obtain ⟨hh, o1, vs1, h1, d1, c1⟩ := hot
  have nx : x1 ≠ it := fun z => by
    rw [z, ho] at h1
    cases h1
    rw [hd] at d1
    cases d1
    cases c1
  unfold pyNext
  refine wpAny_bind (wpAny_attempt (wpAny_callSpecial?_slot (name := Str.ofString "__next__") hit.typeIs slot_listiter_next (wpAny_call_entry slot_listiter_next hit.typeIs entry_listiter_next ?_ (args_listiter_next _))))
  show wpAny _ _ (field (.ref it) 0 >>= _) _ _ s
  refine wpAny_bind (wpAny_field ho hd (x := .ref l) rfl ?_)
  show wpAny _ _ (if (Value.ref l == Value.none) = true then _ else _) _ _ s
  rw [show (Value.ref l == Value.none) = false from rfl, if_neg Bool.false_ne_true]
  show wpAny _ _ (field (.ref it) 1 >>= _) _ _ s
  refine wpAny_bind (wpAny_field ho hd (x := .int i 0) rfl ?_)
  show wpAny _ _ (seqItems? (.ref l) >>= _) _ _ s
  refine wpAny_bind (wpAny_seqItems hol hdl ?_)
  simp only [Int.toNat_natCast, hx]
  refine wpAny_bind (wpAny_rule (wpAny_bind (wpAny_setField ho hd (by simp) ?_)))
  have k1 : ∀ b u, b ≠ it → s.heap.get? b = some u → (s.heap.update it (Obj.mapFields (·.setIfInBounds 0 Value.none))).get? b = some u := fun b u n e => by
    rw [Heap.get?_update_other _ _ (Ne.symm n)]; exact e
  show wpAny _ _ (newExc (.type "StopIteration") [] >>= _) _ _ _
  refine wpAny_bind ?_
  simp only [newExc, newTuple]
  refine wpAny_bind (wpAny_newObj_type ?_ (by size_fits))
  refine wpAny_bind (m := firstArgMember _ _) (wpAny_of_eq (a := Value.none) (by first | rfl | (simp only [firstArgMember]; rfl)) ?_)
  refine wpAny_newObj_type ?_ (by size_fits)
  refine raiseNew_hot ⟨hh, o1, vs1, Heap.get?_push_of_some _ (Heap.get?_push_of_some _ (k1 _ _ nx h1)), d1, c1⟩ (Nat.ne_of_lt (Heap.lt_size (Heap.get?_push_of_some _ (k1 _ _ nx h1)))) (Heap.get?_push_size _ rfl) rfl (by first | (simp; done) | (simp; omega)) ?_
  refine wpAny_bind (wpAny_isInstance (T := "StopIteration") (b := true) ⟨_, Heap.get?_update_self _ (Heap.get?_push_size _ rfl) rfl, rfl⟩ isSubtype_stop ?_)
  refine wpAny_pure (hQ _ fun b u n e => ?_)
  have e1 := k1 b u n e
  rw [Heap.get?_update_other _ _ (Nat.ne_of_gt (Heap.lt_size (Heap.get?_push_of_some _ e1)))]
  exact Heap.get?_push_of_some _ (Heap.get?_push_of_some _ e1)
/-- a list's iterator I, the handled error o1 at x1 -/
theorem walksL_hot {A : Around} {I l x1 : Addr} {items : Array Value} {o1 : Obj} {vs1 : Array Value} (hh : A.handled = some (.ref x1)) (d1 : o1.data = .fields vs1) (c1 : vs1[2]? = some .none) (ne : l ≠ I) (nx : x1 ≠ I) :
    Walks prog w A I [I, l, x1] [I] items.size (fun i v => items[i]? = some v) (fun i h => h.IsListIter I l i ∧ h.IsList l items ∧ h.get? x1 = some o1) where
  sub := fun b hb => by rw [List.mem_singleton.mp hb]; exact List.mem_cons_self
  frame := fun i h h' st hk => ⟨st.1.at fun o e => hk I (by simp) o e, st.2.1.at fun o e => hk l (by simp) o e, hk x1 (by simp) _ st.2.2⟩
  item := fun i s Q E hi st hQ => by
    refine wpAny_pyNext_list_item st.1 st.2.1 (x := items[i]) (by simp [hi]) fun h' it' sb => ?_
    exact hQ _ h' s.toks (by simp [hi]) ⟨it', st.2.1.extBut sb.extBut ne, (sb.2 x1 nx).trans st.2.2⟩ fun b o hb e => sb.extBut b o (fun z => hb (by simp [z])) e
  done := fun s Q E st hQ => list_end_hot ⟨hh, o1, vs1, st.2.2, d1, c1⟩ st.1 st.2.1 (by simp) fun h' k => hQ h' s.toks fun b o hb e => k b o (fun z => hb (by simp [z])) e
  self := fun i s Q E st hQ => wpAny_pyIter_listiter st.1 hQ
theorem sum_hot {x1 l : Addr} {xs : Array (Int × Tok)} {Q : Value → Shared → Prop} (hot : HotAt A x1 s.heap) (hl : s.heap.IsList l (intItems xs))
    (h : ∀ h' tk t', (∀ b o, s.heap.get? b = some o → h'.get? b = some o) → Q (.int (preSum (numAt xs) xs.size) t') { s with heap := h', toks := tk }) : wpAny (model prog w) A (call (.builtin "sum") [.ref l]) Q E s := by
  obtain ⟨hh, o1, vs1, h1, d1, c1⟩ := hot
  obtain ⟨o, ho, hc, n, hd⟩ := id hl
  have nl : l ≠ s.heap.objs.size := Nat.ne_of_lt (Heap.lt_size ho)
  have n1 : x1 ≠ s.heap.objs.size := Nat.ne_of_lt (Heap.lt_size h1)
  have sz : (intItems xs).size = xs.size := by simp [intItems]
  have W := (walksL_hot (prog := prog) (w := w) (A := A.in1) (I := s.heap.objs.size) (items := intItems xs) hh d1 c1 nl n1).toS
  rw [sz] at W
  refine call_sum_walkAnyS (wpAny_pyIter_list hl ?_)
  refine ⟨s.heap.objs.size, _, _, _, _, _, _, numAt xs, rfl, W, ⟨⟨_, Heap.get?_push_size _ rfl, rfl, rfl⟩, hl.at fun o e => Heap.get?_push_of_some _ e, Heap.get?_push_of_some _ h1⟩, fun b hb => ?_, fun i v hP => intItems_at hP, fun s' t' hm => ?_⟩
  · have lt : ∀ {b : Addr} {u : Obj}, s.heap.get? b = some u → b < (s.heap.push { cls := .type "list_iterator", data := .fields #[.ref l, .int 0 0] }).objs.size := fun e => Heap.lt_size (Heap.get?_push_of_some _ e)
    rcases List.mem_cons.mp hb with rfl | hb
    · exact Heap.lt_size (Heap.get?_push_size _ rfl)
    · rcases List.mem_cons.mp hb with rfl | hb
      · exact lt ho
      · rw [List.mem_singleton.mp hb]; exact lt h1
  · obtain ⟨h', g', d', tk', os'⟩ := s'
    obtain ⟨m1, m2, m3, m4, m5⟩ := hm
    cases m2
    cases m3
    cases m4
    exact h h' tk' t' fun b o e => m1 b o (fun hb => absurd (Heap.lt_size e) ((List.mem_singleton.mp hb) ▸ Nat.lt_irrefl _)) (Heap.get?_push_of_some _ e)
end
section
variable {X : Cx} {rc : RC X.K}
theorem cr_sumH (hc : HotC X) : CallR X (.builtin "sum") (rSum X.K) := by
  intro pins s σ H vs us Q I r ⟨a, ns, e, hs, q⟩
  subst e
  obtain ⟨x1, hot⟩ := hc.at I
  obtain ⟨its, rv, hl, _⟩ := I.list hs
  rw [Vals.ref1 r]
  have hi := rv.ints
  obtain ⟨xs, ex⟩ := hi.allInts.items
  have hn : numsOf (intItems xs).toList = ns := by rw [← ex]; exact hi.numsOf
  rw [nums_intItems] at hn
  have hl' : s.heap.IsList a (intItems xs) := by rw [← ex]; exact hl.isList
  refine sum_hot hot hl' fun h' tk t' hk => ⟨.int _, H, I.kept hk, ⟨t', by rw [preSum_eq, List.take_of_length_le (by simp), hn]⟩, q⟩
def sumLD : D → Option D
  | .lst ds => (intsOf ds).map fun l => .int l.sum
  | _ => none
theorem c_sumH (hc : HotC X) : CallP X rc (.builtin "sum") sumLD := by
  refine ⟨_, cr_sumH hc, fun G H v d x Q s rv ex k => ?_⟩
  cases d with
  | lst ds =>
    obtain ⟨a, xs, rfl, h, r⟩ := rv.lst s
    have ex' : (intsOf ds).map (fun l => D.int l.sum) = some x := ex
    cases q : intsOf ds with
    | none => rw [q] at ex'; cases ex'
    | some l =>
      rw [q] at ex'
      cases ex'
      have e1 := intsOf_some q
      subst e1
      have f1 := r.ints
      subst f1
      exact ⟨a, l, rfl, SqL.of h, k _ G H (Grow.refl s) (.int _)⟩
  | _ => cases ex
end
/-! ### a comprehension over a list -/
theorem turn_listH {P : Program} {w : World} {K : PySem.W.Frag} {tg : Expr} (a it : Addr) : TurnH P w K tg (Itl K a) [it] it (fun i h => h.IsListIter it a i) where
  mem := List.mem_singleton.mpr rfl
  obj := fun i h st b hb => by
    rw [List.mem_singleton.mp hb]
    obtain ⟨o, e, c, d⟩ := st
    exact ⟨o, e, fun v z => by rw [d] at z; cases z⟩
  keep := fun i h h' st k => st.at fun o e => k it (List.mem_singleton.mpr rfl) o e
  item := fun X hP hw hK hc i pins s σ H E I hf st hg => by
    subst hP hw hK
    obtain ⟨xs, x, hq, hx⟩ := hg
    obtain ⟨its, rv, pl, _⟩ := I.list hq
    obtain ⟨u, hu, ru⟩ := rv.get hx
    obtain ⟨f0, f1, f2, f3, f4, f5⟩ := hf it (List.mem_singleton.mpr rfl)
    refine wpAny_pyNext_list_item st pl.isList (x := u) (by simpa using hu) fun h' st' sb => ?_
    have J : Inv X pins σ H { s with heap := h' } := I.turned (t' := s.toks) (fun b o nb e => (sb.2 b nb).trans e) f0 f1 f3 f4 f5
    obtain ⟨o, e, c, d⟩ := id st'
    exact ⟨u, rfl, go_of (s := { s with heap := h' }) e c d (by decide) ⟨x, H, J, ru, ⟨rfl, fun ys hy => by rw [I.list_inj hy hq]; exact hx⟩, st', fun b hb => (hf b hb).1⟩⟩
  done := fun X hP hw hK hc i pins s σ H E I hf st hg => by
    subst hP hw hK
    obtain ⟨xs, hq, hx⟩ := hg
    obtain ⟨its, rv, pl, _⟩ := I.list hq
    obtain ⟨f0, f1, f2, f3, f4, f5⟩ := hf it (List.mem_singleton.mpr rfl)
    obtain ⟨x1, hot⟩ := hc.at I
    have hl := rv.length
    exact list_end_hot hot st pl.isList (by simp; omega) fun h' eb => ⟨rfl, I.turned (t' := s.toks) (fun b o nb e => eb b o nb e) f0 f1 f3 f4 f5⟩
  self := fun _ _ _ _ _ st h => wpAny_pyIter_listiter st h
/-- the block of a comprehension, the handled error's object pinned -/
abbrev blkH (X : Cx) (s : Shared) (H : Hp) (scope : Scope) (cenv : Env) (fp : List Addr) (p : Addr × Obj) : Cx := { X.blk s H scope cenv fp with pn := [p] }
section
variable {X : Cx} {pins : List (Addr × Obj)} {σ : L2.St} {H : Hp} {s : Shared}
theorem pi_listH {tg e : Expr} {ta : TE} (he : PE X e ta) : PIH X tg e (fun σ H R => ta σ H fun x H1 => ∃ a, x = .ref a ∧ (∃ xs, SqL X.K H1 a xs) ∧ R (Itl X.K a) H1) := by
  refine ⟨fun pins s σ H R I h => ?_⟩
  refine thn (he.run pins s σ H _ I h) fun u s1 ⟨x, H1, I1, rx, a, ex, ⟨xs, hq⟩, q⟩ => ?_
  subst ex
  obtain rfl : u = Value.ref a := rx
  obtain ⟨its, rv, pl, _⟩ := I1.list hq
  refine wpAny_pyIter_list pl.isList ?_
  have J : Inv X pins σ H1 { s1 with heap := s1.heap.push { cls := .type "list_iterator", data := .fields #[.ref a, .int 0 0] } } := I1.kept (t' := s1.toks) fun b o e => Heap.get?_push_of_some _ e
  refine ⟨s1.heap.objs.size, [s1.heap.objs.size], _, _, H1, rfl, J, turn_listH a s1.heap.objs.size, ⟨_, Heap.get?_push_size _ rfl, rfl, rfl⟩, fun b hb => ?_, q⟩
  rw [List.mem_singleton.mp hb]
  exact I1.fpOk (Nat.le_refl _) (I1.hok.fresh (Nat.le_refl _))
/-- [elt for tg in iter]: from one turn to the next; hot -/
theorem pe_lcH {elt tg iter : Expr} {scope : Scope} {own : List (Str × Nat)} {pos : Pos} {wi : TI} {g : TG} {te : TE} {p : Addr × Obj} (hot : Hot1 X.A p) (hp : p ∈ X.pn) (hN : X.N.Nodup) (hi : PIH X tg iter wi) (ok : BlkOk X.N X.env.scope scope own)
    (hg : ∀ (s : Shared) (H : Hp) (C : Addr) (cl : List (Str × Addr)) (fp : List Addr), PG (blkH X s H scope (compEnvC scope cl C X.env) fp p) tg g)
    (he : ∀ (s : Shared) (H : Hp) (C : Addr) (cl : List (Str × Addr)) (fp : List Addr), PE (blkH X s H scope (compEnvC scope cl C X.env) fp p) elt te) (hs : ∀ x, foldedSetIterable iter X.env x = pure x := by intro _; rfl) :
    PE X (.ListComp elt [⟨tg, iter, [], 0⟩] scope pos) (tLc wi g tYes te (own.map (·.2))) := by
  refine ⟨fun pins s σ H Q I h => ?_⟩
  rw [eval_ListComp]
  have free : ∀ y ∈ scope.names, y.2 = .free → ∃ c, X.env.cells.lookup y.1 = some c := fun y hy e => (ok.free y hy e).elim (fun k => I.ok.has _ (.inl k)) fun k => I.ok.has _ (.inr k)
  refine wpAny_comprehension_free (use := none) rfl hs (closure_ok free) ok.kind (fun y hy e => by rw [ok.uniq y hy, e]) (thn (hi.run pins s σ H _ I h) fun xv sA hx => thn hx fun itv sB hB => ?_)
  obtain ⟨it, fp, tn, J, HB, rfl, IB, T, stB, fB, q⟩ := hB
  refine wpAny_newObj_type (newEnv_comp ?_) (by show 0 ≤ sizeLine; decide)
  generalize hD : sB.heap.objs.size = D
  have Dn : HB D = none := IB.hok.fresh (Nat.le_of_eq hD)
  obtain ⟨W, ⟨m0, w0⟩, turn⟩ := q D Dn
  generalize hsC : ({ sB with heap := sB.heap.push { cls := .type "list", data := .seq ([] : List Value).toArray } } : Shared) = sC
  have IC : Inv X pins σ (upd HB D (.lst [])) sC := by
    rw [← hsC]
    refine IB.laid (t' := sB.toks) (fun b o e => Heap.get?_push_of_some _ e) (Nat.le_of_eq hD) ⟨Nat.zero_le _, [], 0, .nil, ?_⟩
    rw [← hD]
    exact Heap.get?_push_size _ rfl
  have gC : sC.heap = sB.heap.push { cls := .type "list", data := .seq ([] : List Value).toArray } := by rw [← hsC]
  have fpLt : ∀ b ∈ fp, b < sB.heap.objs.size := fun b hb => by
    obtain ⟨o, e, _⟩ := T.obj _ _ stB b hb
    exact Heap.lt_size e
  have fC : ∀ b ∈ fp, FpOk X pins (upd HB D (.lst [])) b ∧ b < sC.heap.objs.size := fun b hb => by
    have lt := fpLt b hb
    refine ⟨⟨?_, (fB b hb).2⟩, by rw [gC, Heap.size_push]; exact Nat.lt_of_lt_of_le lt (Nat.le_succ _)⟩
    rw [upd_ne (by rw [← hD]; exact Nat.ne_of_lt lt)]
    exact (fB b hb).1
  have stC : tn 0 sC.heap := T.keep _ _ _ stB fun b _ o e => by rw [gC]; exact Heap.get?_push_of_some _ e
  have ID0 := block_start IC ok hN fC
  have PC := IC.pin p (List.mem_append_left _ hp)
  have pltC : p.1 < sC.heap.objs.size := Heap.lt_size PC.1
  have pg := hg sC (upd HB D (.lst [])) sC.heap.objs.size (cellsFrom (sC.heap.objs.size + 1) scope.names (cloFrom X.env.cells scope.names [])) fp
  have pe := he sC (upd HB D (.lst [])) sC.heap.objs.size (cellsFrom (sC.heap.objs.size + 1) scope.names (cloFrom X.env.cells scope.names [])) fp
  show codeAny _ _ (.compStart _ 0 (.ref it) (.ref D) (compEnvC scope (cellsFrom (sC.heap.objs.size + 1) scope.names (cloFrom X.env.cells scope.names [])) sC.heap.objs.size X.env)) (compPost (model X.prog X.w) X.A X.xe none (EP X pins σ Q) (.ref D) sC.heap.objs.size) _
  generalize hce : compEnvC scope (cellsFrom (sC.heap.objs.size + 1) scope.names (cloFrom X.env.cells scope.names [])) sC.heap.objs.size X.env = ce at ID0 pg pe ⊢
  have lce : ce.locals = sC.heap.objs.size := by rw [← hce]; rfl
  generalize hHC : upd HB D (.lst []) = HC at IC ID0 pg pe w0 fC PC
  generalize hsD : ({ sC with heap := pushCells (sC.heap.push { cls := .type "dict", data := .dict #[] }) scope.names } : Shared) = sD at ID0 ⊢
  have kCD : ∀ b o, sC.heap.get? b = some o → sD.heap.get? b = some o := fun b o e => by rw [← hsD]; exact pushCells_keeps _ _ _ _ (Heap.get?_push_of_some _ e)
  have stD : tn 0 sD.heap := T.keep _ _ _ stC fun b _ o e => kCD b o e
  have nofp : ∀ b ∈ fp, HC b = none := fun b hb => (fC b hb).1.1
  -- the pin within the block
  have pinOk : p.1 ≠ ce.locals ∧ p.1 ∉ frs X.stack := ⟨by rw [lce]; exact Nat.ne_of_lt pltC, fun hm => by
    rcases List.mem_cons.mp (IC.stkSub p.1 hm) with z | z
    · exact PC.2.2.1 z
    · exact PC.2.2.2.1 z⟩
  have ID : Inv (blkH X sC HC scope ce fp p) [] (wipe σ (own.map (·.2))) HC sD :=
    ⟨{ ID0.ok with }, ID0.os, ID0.bare, ID0.base, ID0.loc, ID0.cell, ID0.free, ID0.freeC, fun q hq => by
      have e : q = p := by simpa using (show q ∈ [p] ++ ([] : List (Addr × Obj)) from hq)
      rw [e]
      exact ⟨kCD _ _ PC.1, PC.2.1, pinOk.1, pinOk.2, PC.2.2.2.2⟩, ID0.hok, ID0.len⟩
  have hotB : HotC (blkH X sC HC scope ce fp p) := ⟨p, hot, List.mem_singleton.mpr rfl⟩
  have stat : ∀ {σ' : L2.St} {H' : Hp} {s' : Shared}, Inv (blkH X sC HC scope ce fp p) [] σ' H' s' → (∃ i, tn i s'.heap) → (∀ b ∈ fp, H' b = none) → ∀ b ∈ fp, FpOk (blkH X sC HC scope ce fp p) [] H' b := fun {σ' H' s'} I' ti hn b hb => by
    refine ⟨hn b hb, (I'.ok.exf b hb).1, I'.ok.exfs b hb, .inl hb, fun x c e => (I'.ok.exf b hb).2 x c e, fun q hq => ?_⟩
    have e : q = p := by simpa using (show q ∈ [p] ++ ([] : List (Addr × Obj)) from hq)
    rw [e]
    exact (fC b hb).1.2.2.2.2.2 p (List.mem_append_left _ hp)
  have loop : codeAny (model X.prog X.w) X.A (.compLoop (.ListComp elt [⟨tg, iter, [], 0⟩] scope pos) 0 (.ref it) (.ref D) ce) (compPost (model X.prog X.w) X.A X.xe none (EP X pins σ Q) (.ref D) sC.heap.objs.size) sD := by
    refine compLoop_any (fun n s' => ∃ i H', Inv (blkH X sC HC scope ce fp p) [] (wipe σ (own.map (·.2))) H' s' ∧ tn i s'.heap ∧ (∀ b ∈ fp, H' b = none) ∧ W i n H') ?_ m0 ⟨0, HC, ID, stD, nofp, w0⟩
    rintro n s5 ⟨i, H5, I5, st5, n5, w5⟩
    rcases turn i n H5 w5 with ⟨stop, qq⟩ | ⟨go, Nx, hNx, step⟩
    · have td := T.done (blkH X sC HC scope ce fp p) rfl rfl rfl hotB i [] s5 _ H5 (fun _ _ => False) I5 (stat I5 ⟨i, st5⟩ n5) st5 stop
      refine thnF td fun r s6 ⟨hr, I6⟩ => ?_
      subst hr
      have I7 : Inv X pins σ H5 s6 := IC.call' (ch := fp) I6.os I6.base I6.hok I6.bare fun b hb => ⟨(fC b hb).1.2.2.2.1, (fC b hb).1.2.1, (fC b hb).1.2.2.2.2.1, (fC b hb).1.2.2.2.2.2⟩
      have nC : H5 sC.heap.objs.size = none := by
        have z : H5 ce.locals = none := I6.free
        rw [lce] at z
        exact z
      obtain ⟨m, hn, _⟩ := I6.loc
      have hn : s6.heap.Ns ce.locals m := hn
      rw [lce] at hn
      obtain ⟨f0, f1, f2, f3, f4, f5⟩ := IC.fpOk (Nat.le_refl _) nC
      exact ⟨m, hn, fun h'' sb => ⟨.ref D, H5, I7.turned (t' := s6.toks) (fun b o hb e => (sb.2 b hb).trans e) f0 f1 f3 f4 f5, rfl, qq⟩⟩
    · have ti := T.item (blkH X sC HC scope ce fp p) rfl rfl rfl hotB i [] s5 _ H5 (fun _ _ => False) I5 (stat I5 ⟨i, st5⟩ n5) st5 go
      refine thnF ti fun r s6 ⟨u, hr, h6⟩ => ?_
      subst hr
      refine thnF h6 fun _ s7 ⟨x, H7, I7, r7, y7, st7, n7⟩ => ?_
      have I7' := I7.pinned (stat I7 ⟨_, st7⟩ n7) (T.obj _ _ st7)
      refine thnF (pg.run _ s7 _ H7 x u _ I7' r7 (step x H7 y7)) fun _ s8 ⟨σ8, H8, I8, hw8, q8⟩ => ?_
      refine wpAny_tests_nil ?_
      have q9 : te σ8 H8 fun y H4 => ∃ acc, H4 D = some (.lst acc) ∧ acc.length < sizeLine ∧ Nx (upd H4 D (.lst (acc ++ [y]))) := by
        have z := q8
        unfold tYes at z
        dsimp only at z
        rw [if_pos rfl] at z
        exact z
      rw [if_pos rfl]
      refine thnF (pe.run _ s8 σ8 H8 _ I8 q9) fun z s10 ⟨yv, H10, I10, r10, acc, hD10, hz10, nx⟩ => ?_
      refine app_ok (X := blkH X sC HC scope ce fp p) I10 hD10 hz10 r10 fun s11 I11 => ?_
      obtain ⟨m', hm, w'⟩ := hNx _ nx
      have pin' : ∀ b ∈ fp, ∀ o, s7.heap.get? b = some o → s11.heap.get? b = some o ∧ _ = none := fun b hb o e =>
        let z := I11.pin (b, o) (List.mem_append_right _ (List.mem_append_right _ (mem_pinsAt hb e)))
        ⟨z.1, z.2.1⟩
      have hl : (wipe σ (own.map (·.2))).length = σ8.length := by rw [← hw8, wipe_length]
      refine ⟨m', hm, i + 1, _, (I11.unpinned (pins := [])).weak hl (fun j v e => ?_), T.keep _ _ _ st7 fun b hb o e => (pin' b hb o e).1, fun b hb => ?_, w'⟩
      · rw [← hw8] at e
        exact (wipe_some e).1
      · obtain ⟨o, e, _⟩ := T.obj _ _ st7 b hb
        exact (pin' b hb o e).2
  exact codeAny_compStart_list loop (T.self X.A 0 _ _ _ stD loop)
end
end U
set_option maxRecDepth 100000
set_option maxHeartbeats 4000000
/-! PL13: the handled error as data: isinstance, its fields; defs that are called while it is handled. -/
namespace PySem.W
open PySem PySem.Spec PySem.Calls PyProof.Rows
section
variable {prog : Program} {w : World} {A : Around} {E : Value → Shared → Prop} {s : Shared} {K : Frag} {x D : Addr} {ox : Obj} {od : Option Obj}
theorem u_findData {C : Addr} {name : Str} {a g : Value} (hc : (clsIn K C).isSome = true) (ha : findIn K (.ref C) name = some (some a)) (hg : specialIn K a "__get__" = some (some g)) (ht : takesIn K a = some true) : findObj K C od name = some (.bind g a) := by
  obtain ⟨cd, e⟩ := Option.isSome_iff_exists.mp hc
  unfold findObj
  rw [e, Option.bind_some, ha, Option.bind_some]
  simp only [hg, ht, Option.bind_some]
/-- x.__class__ of an error of the class D, whatever its own dict -/
theorem u_classE {Q : Option Value → Shared → Prop} (T : L2.ExcC K D) (X : K.In s.heap) (I : InstAt s.heap x ox D od) (h : Q (some (.ref D)) { s with toks := s.toks + 1 }) : wpAny (model prog w) A (getAttr? (.ref x) "__class__") Q E s := by
  have hf : findObj K D od "__class__" = some (.bind (.builtin "getset_descriptor.__get__") (.builtin "object.__class__")) := u_findData (by obtain ⟨cd, e, _⟩ := any_some T.hd; rw [e]; rfl) T.ha T.hn T.ht
  obtain ⟨hp, gs, dr, tk, os⟩ := s
  have Lt := I.type (M := model prog w)
  have Lg := looks_findIn (M := model prog w) X T.hg
  have Lk := looks_findIn (M := model prog w) X T.hk
  have Lf := looks_find (M := model prog w) X I hf
  have isE : Looks (model prog w) hp (isInstance (.ref x) (.type "BaseException")) true := Lt.andThen (looks_subIn X T.hs)
  have e0 : (false && onTheHeap (Value.builtin "BaseException.__getattribute__")) = false := rfl
  have e1 : (Value.builtin "BaseException.__getattribute__" == Value.builtin "object.__getattribute__") = false := by decide +kernel
  have e2 : (onTheHeap (Value.ref D) && Value.builtin "BaseException.__getattribute__" == Value.builtin "object.__getattribute__") = false := by rw [e1]; rfl
  unfold getAttr? getAttrBy? getAttrBy
  refine wpAny_bind (wpAny_mkText (wpAny_bind (wpAny_attempt (wpAny_holding (wpAny_bind (Lt.at (wpAny_bind (Lg.at ?_))))))))
  show wpAny _ _ (if (onTheHeap (Value.ref D) && Value.builtin "BaseException.__getattribute__" == Value.builtin "object.__getattribute__") = true then _ else _) _ _ _
  rw [e2, if_neg Bool.false_ne_true]
  unfold getAttrByItsOwn hookBefore
  refine wpAny_bind ?_
  rw [if_pos (show onTheHeap (Value.ref D) = true from rfl)]
  refine Lk.at ?_
  refine wpAny_bind (wpAny_attempt (wpAny_holding ?_))
  unfold callGetattribute
  rw [e0, if_neg Bool.false_ne_true]
  unfold boundAndCalled
  rw [PySem.F.excAttr_ValueError.ga.bind (.ref x)]
  refine wpAny_bind (wpAny_pure ?_)
  show wpAny _ _ (call (.builtin "BaseException.__getattribute__") [.ref x, .str "__class__" tk]) _ _ _
  refine wpAny_call (codeAny_call_builtin PySem.F.excAttr_ValueError.ga.plain PySem.F.entry_bexc_ga ?_)
  refine @check_slot (model prog w) _ _ ⟨hp, gs, dr, tk + 1, os⟩ "BaseException.__getattribute__" "BaseException" "__getattribute__" (.ref x) [.str "__class__" tk] [] _ (by decide +kernel) (by decide +kernel) isE (PySem.F.args_bexc_ga (.ref x) (.str "__class__" tk)) ?_
  unfold Builtin.«object.__getattribute__»
  refine wpAny_bind (wpAny_of_eq (a := ((Value.ref x : Value), [Value.str "__class__" tk])) (by first | rfl | (simp only [slotArgs]; rfl)) ?_)
  refine wpAny_bind (wpAny_pure (wpAny_bind (Lt.at (wpAny_bind (Lf.at ?_)))))
  show wpAny _ _ (holding [Value.builtin "object.__class__"] (call (.builtin "getset_descriptor.__get__") [.builtin "object.__class__", .ref x, .ref D]) >>= ret) _ _ _
  refine wpAny_bind (wpAny_holding (wpAny_call (class_get (s := ⟨hp, gs, dr, tk + 1, os⟩) (ox := ox) (od := od) X I T.hm ?_)))
  refine wpAny_pure ?_
  show wpAny _ _ (handedOut (.ref D)) _ _ _
  rw [handedOut_of (v := .ref D) rfl]
  first
    | exact wpAny_pure (wpAny_pure h)
    | exact wpAny_pure h
    | exact wpAny_pure (wpAny_bind (wpAny_pure (wpAny_pure h)))
theorem u_kitE (T : L2.ExcC K D) : KitX K (.ref x) (.ref D) (fun h => InstAt h x ox D od) where
  ty := fun _ _ _ I => I.type
  it := fun _ _ X _ => by
    obtain ⟨cd, e, _⟩ := any_some T.hd
    unfold clsIn at e
    split at e
    · rename_i ho
      intro A' Q' E' s' k q
      unfold isType loadHead
      exact wpAny_bind (wpAny_loadPart (k _ _ (X _ _ ho)) (wpAny_pure q))
    · cases e
  ne := fun h tp dd its n sl X htp => by
    obtain ⟨cd, e, _⟩ := any_some T.hd
    refine Bool.eq_false_iff.mpr fun q => ?_
    have eq : D = tp := Value.ref.inj (beq_iff_eq.mp q)
    subst eq
    unfold clsIn at e
    split at e
    · rename_i ho
      cases (X _ _ ho).symm.trans htp
    · cases e
  ca := fun X I k => u_classE T X I k
end
end PySem.W
namespace U
open PySem PySem.Spec PyProof.Rows L2 L2H HotX
/-- the pinned error p is what rc tells -/
structure HotR (X : Cx) (rc : RC X.K) (p : Addr × Obj) : Prop where
  hot : Hot1 X.A p
  mem : p ∈ X.pn
  hx : ∃ c d fs, rc.hx = some (p.1, c, d, fs) ∧ p.2.cls = .ref (rc.cm c) ∧ p.2.dict = d
section
variable {X : Cx} {rc : RC X.K} {p : Addr × Obj} {en : En} {W : WX} {a : Expr} {pos p1 p2 : Pos} {fa : DE}
theorem HotR.hotC (h : HotR X rc p) : HotC X := ⟨p, h.hot, h.mem⟩
theorem HotR.inst (h : HotR X rc p) {pins : List (Addr × Obj)} {σ : L2.St} {H : Hp} {s : Shared} {b : Addr} {c : Nat} {d : Option Addr} {fs : List (Str × D)} (I : Inv X pins σ H s) (e : rc.hx = some (b, c, d, fs)) (hd : ∀ dd, d = some dd → ∃ fvs, H dd = some (.xd fvs)) :
    ∃ od, PySem.W.InstAt s.heap b p.2 (rc.cm c) od ∧ ∀ dd fvs, d = some dd → H dd = some (.xd fvs) → ∃ (o : Obj) (mA : Str → Option Value), od = some o ∧ (∀ y, PySem.W.lookIn y o = some (mA y)) ∧ ∀ f, RelO (fvs.lookup f) (mA f) := by
  obtain ⟨c', d', fs', e', k1, k2⟩ := h.hx
  rw [e] at e'
  cases e'
  obtain ⟨hg, _⟩ := I.pin p (List.mem_append_left _ h.mem)
  obtain ⟨_, vs, hv, _⟩ := h.hot
  have nc : PySem.W.notCls p.2 = true := by unfold PySem.W.notCls; rw [hv] <;> rfl
  cases d with
  | none => exact ⟨none, ⟨hg, k1, nc, by rw [k2]; trivial⟩, fun dd fvs z => by cases z⟩
  | some dd =>
    obtain ⟨fvs, hf⟩ := hd dd rfl
    obtain ⟨mA, hns, hr⟩ := (show ObjOk X.prog X.w H s.heap dd (.xd fvs) from I.hok dd _ hf)
    obtain ⟨o, ho, hl⟩ := lookIn_ns hns
    refine ⟨some o, ⟨hg, k1, nc, by rw [k2]; exact ho⟩, fun dd' fvs' z zf => ?_⟩
    cases z
    rw [hf] at zf
    cases zf
    exact ⟨o, mA, rfl, hl, hr⟩
/-- isinstance(e, c), e the error that is handled -/
def rIsX (K : PySem.W.Frag) (rc : RC K) : List V → Hp → VK → Prop := fun xs H Q => ∃ b c d fs cv u r, xs = [.ref b, cv] ∧ rc.hx = some (b, c, d, fs) ∧ (∀ dd, d = some dd → ∃ fvs, H dd = some (.xd fvs)) ∧ ExcC K (rc.cm c) ∧ ClsV cv u ∧ PySem.W.kitOne K (.ref (rc.cm c)) u = some r ∧ Q (.bl r) H
theorem call_isX (h : HotR X rc p) : CallR X (.builtin "isinstance") (rIsX X.K rc) := by
  intro pins s σ H xs us Q I r ⟨b, c, d, fs, cv, u, k, e, ex, hd, T, kv, ko, q⟩
  subst e
  obtain ⟨u1, u2, rfl, r1, r2⟩ := vals2 r
  obtain rfl := kv.eq r2
  obtain rfl : u1 = Value.ref b := r1
  obtain ⟨od, J, _⟩ := h.inst I ex hd
  exact PySem.W.kia_one (PySem.W.u_kitE T) I.kIn J ko (fun z => nomatch z) fun tk => ⟨.bl k, H, I.kept (t' := tk) fun _ _ z => z, rfl, q⟩
/-- the answers by classes -/
def isXD (ans : Nat → Option Bool) : D → Option D
  | .exc c _ => (ans c).map .bl
  | _ => none
theorem SR.hxd {G H : Hp} {σ : L2.St} {st : DSt} {b : Addr} {c : Nat} {d : Option Addr} {fs : List (Str × D)} (R : SR rc en G H σ st) (e : rc.hx = some (b, c, d, fs)) : ∀ dd, d = some dd → ∃ fvs, H dd = some (.xd fvs) := fun dd z => by
  rcases R.hx b c d fs e with ⟨_, h⟩ | ⟨dd', fvs, h1, h2, _⟩
  · rw [h] at z; cases z
  · rw [h1] at z; cases z; exact ⟨fvs, h2⟩
theorem tX_rule {ans : Nat → Option Bool} {cv : V} {u : Value} {σ : L2.St} {H : Hp} {Q : VK} (hk : ClsV cv u) (hans : ∀ c r, ans c = some r → ExcC X.K (rc.cm c) ∧ PySem.W.kitOne X.K (.ref (rc.cm c)) u = some r) (h : tU rc en W (dCall1 (isXD ans) fa) σ H Q) :
    tU rc en W fa σ H fun x H1 => rIsX X.K rc [x, cv] H1 Q := by
  obtain ⟨G, st, R, h⟩ := h
  refine ⟨G, st, R, (Ends3.bind h).imp fun d st1 G1 H1 s1 R1 h1 v rv => ?_⟩
  obtain ⟨y, ey, k⟩ := Ends3.opt h1
  cases rv <;> first | (cases ey; done) | skip
  rename_i b c d fs e
  have ey' : (ans c).map D.bl = some y := ey
  cases q : ans c with
  | none => rw [q] at ey'; cases ey'
  | some r =>
    rw [q] at ey'
    cases ey'
    exact ⟨b, c, d, fs, cv, u, r, rfl, e, R1.hxd e, (hans c r q).1, hk, (hans c r q).2, k G1 H1 (L2.Same.refl _) R1 _ (.bl _)⟩
/-- .. c an own class -/
theorem pu_isX {T : Str} {C : Addr} {ans : Nat → Option Bool} (h : HotR X rc p) (hg : Gl X "isinstance") (hm : X.mg "isinstance" = none) (ha : PE X a (tU rc en W fa)) (hgT : Gl X T) (hmT : X.mg T = some (.ref C)) (hans : ∀ c r, ans c = some r → ExcC X.K (rc.cm c) ∧ PySem.W.kitOne X.K (.ref (rc.cm c)) (.ref C) = some r) (hdT : (T == ("__debug__" : Str)) = false := by decide)
    (hs1 : starEach [a, .Name T p2] X.env = (false, eval a X.env) :: starEach [.Name T p2] X.env := by rfl) (hs2 : starEach [.Name T p2] X.env = (false, eval (.Name T p2) X.env) :: starEach [] X.env := by rfl) (hpl : (backTo pos (starEach [.Name T p2] X.env)).any (·.1) = false := by rfl) :
    PE X (.Call (.Name "isinstance" p1) [a, .Name T p2] [] pos) (tU rc en W (dCall1 (isXD ans) fa)) := by
  have hT : PE X (.Name T p2) (tC (.ref C)) := pe_glob hgT hmT (v := .ref C) rfl hdT
  exact (pe_callB (call_isX h) hg hm (by rfl) (pa_cons ha (pa_cons hT pa_nil hs2) hs1) (by decide) (by decide) hs1 hpl).imp fun σ H Q q => tX_rule (.own C) hans q
/-- .. c a built-in one -/
theorem pu_isXT {T : Str} {n : String} {ans : Nat → Option Bool} (h : HotR X rc p) (hg : Gl X "isinstance") (hm : X.mg "isinstance" = none) (ha : PE X a (tU rc en W fa)) (hgT : Gl X T) (hmT : X.mg T = none) (hv : bootBuiltins T = some (.type n)) (hans : ∀ c r, ans c = some r → ExcC X.K (rc.cm c) ∧ PySem.W.kitOne X.K (.ref (rc.cm c)) (.type n) = some r)
    (hnT : T ≠ "__name__" := by decide) (hdT : (T == ("__debug__" : Str)) = false := by decide)
    (hs1 : starEach [a, .Name T p2] X.env = (false, eval a X.env) :: starEach [.Name T p2] X.env := by rfl) (hs2 : starEach [.Name T p2] X.env = (false, eval (.Name T p2) X.env) :: starEach [] X.env := by rfl) (hpl : (backTo pos (starEach [.Name T p2] X.env)).any (·.1) = false := by rfl) :
    PE X (.Call (.Name "isinstance" p1) [a, .Name T p2] [] pos) (tU rc en W (dCall1 (isXD ans) fa)) := by
  have hT : PE X (.Name T p2) (tC (.ty n)) := pe_bltn hgT hmT hv rfl hnT hdT
  exact (pe_callB (call_isX h) hg hm (by rfl) (pa_cons ha (pa_cons hT pa_nil hs2) hs1) (by decide) (by decide) hs1 hpl).imp fun σ H Q q => tX_rule (.ty n) hans q
/-! ### e.f -/
def dXf (cs : List Nat) (f : Str) (fa : DE) : DE := fun st => (fa st).bind fun d st' => match d with
  | .exc c fs => if c ∈ cs then .opt (fs.lookup f) st' else .stuck
  | _ => .stuck
theorem pu_xf {cs : List Nat} {f : Str} (h : HotR X rc p) (ha : PE X a (tU rc en W fa)) (hcs : ∀ c ∈ cs, XfC X.K (rc.cm c) ∧ PySem.W.findIn X.K (.ref (rc.cm c)) f = some none) (hb : attributeBase a f X.env (eval a X.env) = eval a X.env := by rfl) : PE X (.Attribute a f pos) (tU rc en W (dXf cs f fa)) := by
  refine ⟨fun pins s σ H Q I ⟨G, st, R, q⟩ => ?_⟩
  refine attr_of hb (thn (ha.run pins s σ H (fun x H1 => ∃ b c d fs dd fvs v, x = .ref b ∧ rc.hx = some (b, c, d, fs) ∧ c ∈ cs ∧ d = some dd ∧ H1 dd = some (.xd fvs) ∧ fvs.lookup f = some v ∧ Q v H1) I ⟨G, st, R, (Ends3.bind q).imp fun d st1 G1 H1 s1 R1 h1 v rv => ?_⟩) fun u s1 hh => ?_)
  · cases rv <;> first | exact h1.elim | skip
    rename_i b c d fs e
    dsimp only at h1
    by_cases z : c ∈ cs
    · rw [if_pos z] at h1
      obtain ⟨y, ey, k⟩ := Ends3.opt h1
      rcases R1.hx b c d fs e with ⟨h, _⟩ | ⟨dd, fvs, k1, k2, k3⟩
      · rw [h] at ey; cases ey
      · obtain ⟨w, hw, rw'⟩ := k3.lookup ey
        exact ⟨b, c, d, fs, dd, fvs, w, rfl, e, z, k1, k2, hw, k G1 H1 (L2.Same.refl _) R1 w rw'⟩
    · rw [if_neg z] at h1; exact h1.elim
  · obtain ⟨x, H1, I1, rx, b, c, d, fs, dd, fvs, v, ex, e, hc, ed, ea, l, q⟩ := hh
    subst ex
    obtain rfl : u = Value.ref b := rx
    obtain ⟨T, hno⟩ := hcs c hc
    obtain ⟨od, J, hl⟩ := h.inst I1 e fun dd' z => by
      rw [ed] at z
      cases z
      exact ⟨fvs, ea⟩
    obtain ⟨o, mA, eo, hlk, hr⟩ := hl dd fvs ed ea
    subst eo
    obtain ⟨w, hw, rw'⟩ := RelO.some_of (v := v) (o := mA f) (by rw [← l]; exact hr f)
    exact HandSPX.exc_get I1.kIn J T.ga T.gg T.exC (PySem.W.findObj_own T.hdC hno rfl (by rw [hlk, hw])) (handed_of rw') ⟨v, H1, I1.tok _, rw', q⟩
end
end U
set_option maxRecDepth 100000
set_option maxHeartbeats 4000000
/-! PL14: defs that are called while an error is handled. -/
namespace U
open PySem PySem.Spec PyProof.Rows L2 L2H HotX
theorem room_mark {k : Nat} {A : Around} (r : Room k A) (h : Option Value) : RoomH k (A.mark h) := ⟨r.dp, r.un⟩
/-- what rc says of the pinned error -/
def Tie {K : PySem.W.Frag} (rc : RC K) (p : Addr × Obj) : Prop := ∃ c d fs, rc.hx = some (p.1, c, d, fs) ∧ p.2.cls = .ref (rc.cm c) ∧ p.2.dict = d
def HxOk {K : PySem.W.Frag} (rc : RC K) (G H : Hp) : Prop := ∀ a c d fs, rc.hx = some (a, c, d, fs) → (fs = [] ∧ d = none) ∨ ∃ dd fvs, d = some dd ∧ H dd = some (.xd fvs) ∧ RepF rc G fvs fs
/-- the promise of such a def, the error at p -/
def spX (K : PySem.W.Frag) (cm : Nat → Addr) (sem : Fn) (p : Addr × Obj) : Sp := fun vs H Q E => ∃ rc : RC K, rc.cm = cm ∧ Tie rc p ∧ ∃ G as, Same G H ∧ ArgsR rc G H vs as [] ∧ HxOk rc G H ∧ match sem as with
  | .ok d _ => ∀ v G' H', After G H [] G' H' → Rep rc G' v d → Q v H'
  | _ => False
structure FnX (P : Program) (w : World) (K : PySem.W.Frag) (mg : Str → Option Value) (base : Heap) (CX : CXT) (k : Nat) (f : Addr) (fd : FuncData) (ps : List Str) (sp : Addr × Obj → Sp) : Prop where
  len : ∀ p vs H Q E, sp p vs H Q E → vs.length = ps.length
  run : ∀ (A : Around) (outer : List Env) (s : Shared) (H : Hp) (args : Args) (us : List Value) (vs : List V) (Q : VK) (E : XK) (p : Addr × Obj), RoomH k A → Hot1 A p → PinOk outer H s p → Env0 P w K mg base A outer s H → BindsTo s fd args (ps.zip us) → Vals vs us → sp p vs H Q E →
    codeAny (model P w) A (.call (.ref f) args) (CR CX outer P w H s Q E) s
section
variable {P : Program} {w : World} {K : PySem.W.Frag} {mg : Str → Option Value} {base : Heap} {CX : CXT}
/-- by its body -/
theorem fnX_of {x qual : Str} {params : Arguments} {body : List Stmt} {scope : Scope} {f : Addr} {fd : FuncData} {N ps : List Str} {k : Nat} {sp : Addr × Obj → Sp} (Fd : FunD K x qual params body scope [] [] f fd) (S : FnScope N ps scope) (len : ∀ p vs H Q E, sp p vs H Q E → vs.length = ps.length)
    (hbody : ∀ (cdv : Value) (A : Around) (outer : List Env) (s : Shared) (H : Hp) (vs : List V) (Q : VK) (E : XK) (p : Addr × Obj), Hot1 A p → RoomH k (A.deeper (envOfC qual scope s.heap.objs.size f cdv)) → sp p vs H Q E →
      ∃ t, PSs (cxH CX P w K mg base N qual scope f cdv A outer s H E p) body t ∧ t { nx := fun _ H' => Q .non H', rt := Q } (L2.start N vs) H) : FnX P w K mg base CX (k + 1) f fd ps sp := by
  obtain ⟨oc, od, dV, kV, doc, pm, an, cdv, ct, osl, rfl, lk, hcd, _, _⟩ := Fd.ex
  refine ⟨len, fun A outer s H args us vs Q E p room hot pin e0 bnd rel hsp => ?_⟩
  have hl := len p vs H Q E hsp
  have bs' : ∀ b o, base.get? b = some o → s.heap.get? b = some o := fun b o e => (e0.bs b o e).1
  have Kin : K.In s.heap := e0.mod.kin.keeps bs'
  have nolim : s.heap.NoLimit := e0.mod.nolimit.keeps bs'
  have kinds : ∀ y ∈ ps.zip us, scope.names.lookup y.1 = some .local ∨ (scope.names.lookup y.1 = some .cell ∧ ((cellsFrom (s.heap.objs.size + 1) scope.names []).lookup y.1).isSome = true) := fun ⟨n, v⟩ hy =>
    (S.par n (List.of_mem_zip hy).1).elim .inl fun q => .inr ⟨q, PySem.W.cellsFrom_some _ _ _ (.inl q)⟩
  refine codeAny_call_function room.depth (Kin _ _ lk) rfl S.co S.gen rfl (PySem.W.codeRec_of Kin hcd) (bnd _ _ _ _ ?_)
  refine wpAny_newFunctionEnv_cells S.kind kinds fun env he s1 x => ?_
  subst he
  refine ⟨nolim.keeps x.toInCall.keep, codeAny_func ?_⟩
  obtain ⟨t, ht, q⟩ := hbody cdv A outer s H vs Q E p hot (room.deeper _) hsp
  have J : Inv (cxH CX P w K mg base N qual scope f cdv A outer s H E p) [] (L2.start N vs) H s1 := inv_startH S pin e0 hl rel x
  refine wpAny_mono (ht.run [] s1 _ H _ J q) (fun fl s2 h2 => ?_) fun e s2 h2 => h2
  cases fl with
  | next =>
    obtain ⟨σ2, H2, J2, q2⟩ := h2
    exact ⟨V.non, H2, J2.os, J2.bare, J2.base, J2.hok, rfl, q2⟩
  | ret u =>
    obtain ⟨v, σ2, H2, J2, rv, q2⟩ := h2
    exact ⟨v, H2, J2.os, J2.bare, J2.base, J2.hok, rv, q2⟩
  | brk => obtain ⟨_, _, _, z⟩ := h2; exact z.elim
  | cont => obtain ⟨_, _, _, z⟩ := h2; exact z.elim
/-- .. over plain data -/
theorem fnUX {x qual : Str} {params : Arguments} {body : List Stmt} {scope : Scope} {f : Addr} {fd : FuncData} {N ps : List Str} {k : Nat} {cm : Nat → Addr} {F : DS} (Fd : FunD K x qual params body scope [] [] f fd) (S : FnScope N ps scope)
    (hbody : ∀ (cdv : Value) (A : Around) (outer : List Env) (s : Shared) (H : Hp) (E : XK) (p : Addr × Obj) (rc : RC K) (en : En), rc.cm = cm → HotR (cxH CX P w K mg base N qual scope f cdv A outer s H E p) rc p → RoomH k (A.deeper (envOfC qual scope s.heap.objs.size f cdv)) →
      PSs (cxH CX P w K mg base N qual scope f cdv A outer s H E p) body (tS rc en WF F)) :
    FnX P w K mg base CX (k + 1) f fd ps (fun p vs H Q E => vs.length = ps.length ∧ spX K cm (runF N.length F) p vs H Q E) := by
  refine fnX_of Fd S (fun p vs H Q E h => h.1) (fun cdv A outer s H vs Q E p hot hr ⟨hl, rc, hcm, tie, G, as, gh, r, hxo, h⟩ => ?_)
  refine ⟨_, hbody cdv A outer s H E p rc ⟨G, H, [], fun _ => none⟩ hcm ⟨hot, List.mem_singleton.mpr rfl, tie⟩ hr, ?_⟩
  have hpl : ps.length ≤ N.length := by have := congrArg List.length S.pre; rw [List.length_take] at this; omega
  have hal : as.length ≤ N.length := by rw [← r.len.1, hl]; exact hpl
  refine ⟨G, _, SR.start hxo gh r hal, ?_⟩
  unfold runF at h
  cases q : F (initA 0 as ++ List.replicate (N.length - as.length) Slot.un) with
  | nx st =>
    rw [q] at h
    dsimp only at h
    cases q2 : outsN 0 (nCells as) st with
    | none => rw [q2] at h; exact h.elim
    | some os =>
      rw [q2] at h
      exact fun σ' G' H' s R => h .non G' H' (SR.after (en := ⟨G, H, [], fun _ => none⟩) R) .non
  | rt d st =>
    rw [q] at h
    dsimp only at h
    cases q2 : outsN 0 (nCells as) st with
    | none => rw [q2] at h; exact h.elim
    | some os =>
      rw [q2] at h
      exact fun v σ' G' H' s R rv => h v G' H' (SR.after (en := ⟨G, H, [], fun _ => none⟩) R) rv
  | rf d st =>
    rw [q] at h
    dsimp only at h
    cases q2 : outsN 0 (nCells as) st with
    | none => rw [q2] at h; exact h.elim
    | some os => rw [q2] at h; exact h.elim
  | exc x st => rw [q] at h; exact h.elim
  | bk st => rw [q] at h; exact h.elim
  | ct st => rw [q] at h; exact h.elim
  | stuck => rw [q] at h; exact h.elim
end
/-- what a call there needs of the def -/
structure DefX (X : Cx) (cm : Nat → Addr) (x : Str) (k : Nat) (n : Nat) (sem : Fn) : Prop where
  ex : ∃ f fd ps, FnX X.prog X.w X.K X.mg X.base (L2N.CX X.prog X.w) k f fd ps (fun p vs H Q E => vs.length = ps.length ∧ spX X.K cm sem p vs H Q E) ∧ X.mg x = some (.ref f) ∧ PySem.W.keepIn X.K (.ref f) = true ∧ Binds X.K fd ps [] ∧ ps.length = n
def dCallX (sem : Fn) (n : Nat) (fl : DA) : DE := fun st => (fl st).bind fun ds st1 => if ds.length = n then (match sem (ds.map .p) with
  | .ok d _ => .ok d st1
  | _ => .stuck) else .stuck
theorem argsR_ps {K : PySem.W.Frag} {rc : RC K} {G H : Hp} : ∀ {vs : List V} {ds : List D}, Reps rc G vs ds → ArgsR rc G H vs (ds.map .p) []
  | _, _, .nil => .nil
  | _, _, .cons h r => .p h (argsR_ps r)
section
variable {X : Cx} {rc : RC X.K} {p : Addr × Obj} {en : En} {W : WX} {e : Expr} {es : List Expr} {pos p1 : Pos}
theorem After.grow {G H G' H' : Hp} (a : After G H [] G' H') : Grow G H G' H' := ⟨a.g, a.gh, fun b o e => a.h b o (by simp) e, a.fr⟩
theorem pu_fnX {x : Str} {k n : Nat} {sem : Fn} {fl : DA} (h : HotR X rc p) (F : DefX X rc.cm x k n sem) (hr : RoomH k X.A) (ha : PA X (e :: es) (tL rc en W fl)) (hg : Gl X x := by rfl) (hdb : (x == ("__debug__" : Str)) = false := by decide) (he : starEach (e :: es) X.env = (false, eval e X.env) :: starEach es X.env := by rfl) (hpl : (backTo pos (starEach es X.env)).any (·.1) = false := by rfl) :
    PE X (.Call (.Name x p1) (e :: es) [] pos) (tU rc en W (dCallX sem n fl)) := by
  obtain ⟨f, fd, ps, F1, hm, hk, hb, hn⟩ := F.ex
  refine ⟨fun pins s σ H Q I ⟨G, st, R, q⟩ => ?_⟩
  refine wpAny_Call_Name_kw (ld_glob I hg hm ?_ hdb)
  refine PySem.W.callWith_K (h₀ := X.base) I.ok.mod.kin hk (thn (ha.run pos pins s σ H (fun vs H1 => vs.length = ps.length ∧ spX X.K rc.cm sem p vs H1 Q (fun _ _ _ => False)) I ⟨G, st, R, (Ends3.bind q).imp fun ds st1 G1 H1 s1 R1 h1 vs rvs => ?_⟩) fun us s1 ⟨vs, H1, I1, rel, hsp⟩ => ⟨I1.kIn, ?_⟩) he hpl
  · by_cases z : ds.length = n
    · rw [if_pos z] at h1
      refine ⟨by rw [rvs.length, z, hn], rc, rfl, h.hx, G1, _, R1.gh, argsR_ps rvs, R1.hx, ?_⟩
      cases q2 : sem (ds.map .p) with
      | ok d outs =>
        rw [q2] at h1
        exact fun v G' H' af rv => h1 G' H' af.g (R1.grow af.grow) v rv
      | okf d outs => rw [q2] at h1; exact h1.elim
      | exc x => rw [q2] at h1; exact h1.elim
      | stuck => rw [q2] at h1; exact h1.elim
    · rw [if_neg z] at h1; exact h1.elim
  · have hl : us.length = ps.length := by rw [← rel.length]; exact hsp.1
    have b := hb s1 us I1.kIn (by rw [List.append_nil]; exact hl)
    rw [List.append_nil] at b
    have P1 := I1.pin p (List.mem_append_left _ h.mem)
    have pin : PinOk X.stack H1 s1 p := ⟨P1.1, P1.2.1, fun hm => (List.mem_cons.mp (I1.stkSub p.1 hm)).elim P1.2.2.1 P1.2.2.2.1, P1.2.2.2.2⟩
    refine wpAny_call (codeAny_mono (F1.run X.A X.stack s1 H1 ⟨us, []⟩ us vs Q (fun _ _ _ => False) p hr h.hot pin I1.env0 b rel hsp) fun r s2 hq => ?_)
    cases r with
    | error er => exact no_pass pins σ _ _ er s2 I1 hq
    | ok fl =>
      cases fl with
      | ret u => exact I1.after hq
      | next => exact hq.elim
      | brk => exact hq.elim
      | cont => exact hq.elim
theorem tLc_yes {fi : DA} {t : TgD} {ts vs : List Nat} {te : TE} {σ : L2.St} {H : Hp} {Q : VK} (h : tLc (tI rc en W fi) (fun v σ H Q => ∃ en', tGt (X := X) rc en' t ts v σ H Q) (fun σ H Q => ∃ en', tD rc en' WF bdYes σ H Q) te vs σ H Q) :
    tLc (tI rc en W fi) (fun v σ H Q => ∃ en', tGt (X := X) rc en' t ts v σ H Q) tYes te vs σ H Q := by
  obtain ⟨G, st, R, h⟩ := h
  refine ⟨G, st, R, h.imp fun items st1 G1 H1 s1 R1 h1 J yd D hD => ?_⟩
  obtain ⟨Wm, w0, turn⟩ := h1 J yd D hD
  refine ⟨Wm, w0, fun i m H w => (turn i m H w).imp id fun ⟨go, Nx, hNx, step⟩ => ⟨go, Nx, hNx, fun x H' y => ?_⟩⟩
  obtain ⟨en', G2, st2, d, st', R2, r, e, k⟩ := step x H' y
  refine ⟨en', G2, st2, d, st', R2, r, e, fun σ' R' l f => ⟨(k σ' R' l f).1, ?_⟩⟩
  obtain ⟨en3, G3, st3, R3, h3⟩ := (k σ' R' l f).2
  exact h3 _ _ (L2.Same.refl _) R3
/-- a comprehension over a list, while the error is handled -/
theorem pf_lcX {elt tg a : Expr} {scope : Scope} {own : List (Str × Nat)} {fa : DE} {t : TgD} {ts : List Nat} {fe : DE} (h : HotR X rc p) (hN : X.N.Nodup) (ha : PE X a (tU rc en W fa)) (ok : BlkOk X.N X.env.scope scope own)
    (hg : ∀ (en : En) (s : Shared) (H : Hp) (C : Addr) (cl : List (Str × Addr)) (fp : List Addr), PG (blkH X s H scope (compEnvC scope cl C X.env) fp p) tg (tGt (X := blkH X s H scope (compEnvC scope cl C X.env) fp p) rc en t ts))
    (he : ∀ (en : En) (s : Shared) (H : Hp) (C : Addr) (cl : List (Str × Addr)) (fp : List Addr), PE (blkH X s H scope (compEnvC scope cl C X.env) fp p) elt (tU rc en WF fe))
    (hts : ∀ i ∈ ts, i ∈ own.map (·.2) := by decide) (hs : ∀ x, foldedSetIterable a X.env x = pure x := by intro _; rfl) :
    PE X (.ListComp elt [⟨tg, a, [], 0⟩] scope pos) (tF rc en W (dLc (iL fa) (own.map (·.2)) t bdYes fe)) := by
  have hi : PIH X tg a (tI rc en W (iL fa)) := ⟨fun pins s σ H R' I hw => (pi_listH ha).run pins s σ H R' I (by
    obtain ⟨G, st, R, hw⟩ := hw
    refine ⟨G, st, R, (Ends3.bind hw).imp fun d st1 G1 H1 s1 R1 h1 v rv => ?_⟩
    cases rv <;> first | exact h1.elim | skip
    · rename_i q xs ds hs r
      exact ⟨q, rfl, ⟨xs, SqL.of (R1.gh _ _ hs)⟩, h1 G1 H1 (L2.Same.refl _) R1 _ (YD.list (SqL.of hs) r)⟩
    · rename_i q xs ds hs r
      exact ⟨q, rfl, ⟨xs, L2.Same.seq R1.gh hs⟩, h1 G1 H1 (L2.Same.refl _) R1 _ (YD.list hs r)⟩)⟩
  refine (pe_lcH (g := fun v σ H Q => ∃ en', tGt rc en' t ts v σ H Q) (te := fun σ H Q => ∃ en', tU rc en' WF fe σ H Q) h.hot h.mem hN hi ok (fun s H C cl fp => ⟨fun pins s' σ H' v u Q I r ⟨en', hw⟩ => (hg en' s H C cl fp).run pins s' σ H' v u Q I r hw⟩)
    (fun s H C cl fp => ⟨fun pins s' σ H' Q I ⟨en', hw⟩ => (he en' s H C cl fp).run pins s' σ H' Q I hw⟩) hs).imp fun σ H Q hw => ?_
  exact tLc_yes (tF_lc (X := X) hts hw)
end
end U
set_option maxRecDepth 100000
set_option maxHeartbeats 4000000
/-! PL15: try: .. except C as n: .. -/
namespace U
open PySem PySem.Spec PyProof.Rows L2 L2H HotX
mutual
def noX : D → Bool
  | .exc _ _ => false
  | .dct _ => false
  | .tup ds => noXs ds
  | .lst ds => noXs ds
  | .scr ds => noXs ds
  | .ins _ fs => noXF fs
  | _ => true
def noXs : List D → Bool
  | [] => true
  | d :: ds => noX d && noXs ds
def noXF : List (Str × D) → Bool
  | [] => true
  | (_, d) :: ds => noX d && noXF ds
end
section
variable {K : PySem.W.Frag} {rc rc' : RC K} {G H : Hp}
mutual
theorem Rep.toX (h0 : rc.hx = none) (hc : rc'.cm = rc.cm) : ∀ {v : V} {d : D}, Rep rc G v d → Rep rc' G v d
  | _, _, .non => .non
  | _, _, .bl b => .bl b
  | _, _, .int i => .int i
  | _, _, .str x => .str x
  | _, _, .tup h r => .tup h (Reps.toX h0 hc r)
  | _, _, .lst h r => .lst h (Reps.toX h0 hc r)
  | _, _, .scr h r => .scr h (Reps.toX h0 hc r)
  | _, _, .ins (c := c) h r => .ins (by rw [hc]; exact h) (RepF.toX h0 hc r)
  | _, _, .exc h => by rw [h0] at h; cases h
  | _, _, .cls (c := c) => by rw [← hc]; exact .cls
theorem Reps.toX (h0 : rc.hx = none) (hc : rc'.cm = rc.cm) : ∀ {v : List V} {d : List D}, Reps rc G v d → Reps rc' G v d
  | _, _, .nil => .nil
  | _, _, .cons h r => .cons (Rep.toX h0 hc h) (Reps.toX h0 hc r)
theorem RepF.toX (h0 : rc.hx = none) (hc : rc'.cm = rc.cm) : ∀ {v : List (Str × V)} {d : List (Str × D)}, RepF rc G v d → RepF rc' G v d
  | _, _, .nil => .nil
  | _, _, .cons h r => .cons (Rep.toX h0 hc h) (RepF.toX h0 hc r)
end
mutual
theorem Rep.ofX (hc : rc'.cm = rc.cm) : ∀ {v : V} {d : D}, Rep rc G v d → noX d = true → Rep rc' G v d
  | _, _, .non, _ => .non
  | _, _, .bl b, _ => .bl b
  | _, _, .int i, _ => .int i
  | _, _, .str x, _ => .str x
  | _, _, .tup h r, e => .tup h (Reps.ofX hc r (by simpa [noX] using e))
  | _, _, .lst h r, e => .lst h (Reps.ofX hc r (by simpa [noX] using e))
  | _, _, .scr h r, e => .scr h (Reps.ofX hc r (by simpa [noX] using e))
  | _, _, .ins h r, e => .ins (by rw [hc]; exact h) (RepF.ofX hc r (by simpa [noX] using e))
  | _, _, .exc h, e => by simp [noX] at e
  | _, _, .cls (c := c), _ => by rw [← hc]; exact .cls
theorem Reps.ofX (hc : rc'.cm = rc.cm) : ∀ {v : List V} {d : List D}, Reps rc G v d → noXs d = true → Reps rc' G v d
  | _, _, .nil, _ => .nil
  | _, _, .cons h r, e => by
    rw [noXs, Bool.and_eq_true] at e
    exact .cons (Rep.ofX hc h e.1) (Reps.ofX hc r e.2)
theorem RepF.ofX (hc : rc'.cm = rc.cm) : ∀ {v : List (Str × V)} {d : List (Str × D)}, RepF rc G v d → noXF d = true → RepF rc' G v d
  | _, _, .nil, _ => .nil
  | _, _, .cons h r, e => by
    rw [noXF, Bool.and_eq_true] at e
    exact .cons (Rep.ofX hc h e.1) (RepF.ofX hc r e.2)
end
theorem CellRep.toX (h0 : rc.hx = none) (hc : rc'.cm = rc.cm) {p : Addr} {d : D} (h : CellRep rc G H p d) : CellRep rc' G H p d := by
  cases d with
  | lst ds => obtain ⟨xs, e, r⟩ := h; exact ⟨xs, e, r.toX h0 hc⟩
  | ins c fs => obtain ⟨dx, fvs, e, r⟩ := h; exact ⟨dx, fvs, by rw [hc]; exact e, r.toX h0 hc⟩
  | _ => exact h.elim
theorem CellRep.ofX (hc : rc'.cm = rc.cm) {p : Addr} {d : D} (h : CellRep rc G H p d) (n : noX d = true) : CellRep rc' G H p d := by
  cases d with
  | lst ds => obtain ⟨xs, e, r⟩ := h; exact ⟨xs, e, r.ofX hc (by simpa [noX] using n)⟩
  | ins c fs => obtain ⟨dx, fvs, e, r⟩ := h; exact ⟨dx, fvs, by rw [hc]; exact e, r.ofX hc (by simpa [noX] using n)⟩
  | _ => exact h.elim
def Slot.clean : Slot → Slot
  | .un => .un
  | .pure d => if noX d = true then .pure d else .un
  | .fr d => if noX d = true then .pure d else .un
  | .cell d => if noX d = true then .cell d else .un
  | .io k d => if noX d = true then .io k d else .un
theorem Slot.clean_cell {s : Slot} (h : s.clean.isCell = true) : s.isCell = true := by
  cases s with
  | un => cases h
  | pure d =>
    have h' : (if noX d = true then Slot.pure d else Slot.un).isCell = true := h
    split at h' <;> cases h'
  | fr d =>
    have h' : (if noX d = true then Slot.pure d else Slot.un).isCell = true := h
    split at h' <;> cases h'
  | cell d => rfl
  | io k d => rfl
variable {en : En} {σ : L2.St} {st : DSt}
theorem clean_get {j : Nat} {s : Slot} (h : (st.map Slot.clean)[j]? = some s) : ∃ s', st[j]? = some s' ∧ s = s'.clean := by
  rw [List.getElem?_map] at h
  cases q : st[j]? with
  | none => rw [q] at h; cases h
  | some s' => rw [q] at h; cases h; exact ⟨s', rfl, rfl⟩
/-- behind a suite: what bears no error -/
theorem SR.clean (R : SR rc en G H σ st) (hc : rc'.cm = rc.cm) (h0 : rc'.hx = none) : SR rc' en G H σ (st.map Slot.clean) := by
  refine ⟨R.gh, R.g0, R.h0, R.fr, R.ioO, R.ioN, R.ioH, (fun a c d fs e => by rw [h0] at e; cases e), (by rw [List.length_map]; exact R.len), fun i o s e q => ?_, fun a o e => ?_, fun i j p a b ne e1 q1 c1 e2 q2 c2 => ?_⟩
  · obtain ⟨s', q', rfl⟩ := clean_get q
    have z := R.sl i o s' e q'
    cases s' with
    | un => trivial
    | pure d =>
      obtain ⟨v, h1, h2⟩ := z
      show SlotR rc' en G H o (if noX d = true then _ else _)
      by_cases n : noX d = true
      · rw [if_pos n]; exact ⟨v, h1, h2.ofX hc n⟩
      · rw [if_neg n]; trivial
    | fr d =>
      obtain ⟨v, h1, h2, _⟩ := z
      show SlotR rc' en G H o (if noX d = true then _ else _)
      by_cases n : noX d = true
      · rw [if_pos n]; exact ⟨v, h1, h2.ofX hc n⟩
      · rw [if_neg n]; trivial
    | cell d =>
      obtain ⟨p, h1, h2, h3, h4⟩ := z
      show SlotR rc' en G H o (if noX d = true then _ else _)
      by_cases n : noX d = true
      · rw [if_pos n]; exact ⟨p, h1, h2, h3, h4.ofX hc n⟩
      · rw [if_neg n]; trivial
    | io k d =>
      obtain ⟨p, h1, h2, h4⟩ := z
      show SlotR rc' en G H o (if noX d = true then _ else _)
      by_cases n : noX d = true
      · rw [if_pos n]; exact ⟨p, h1, h2, h4.ofX hc n⟩
      · rw [if_neg n]; trivial
  · obtain ⟨h1, h2, h3⟩ := R.kp a o e
    refine ⟨h1, h2, fun j s e' q => ?_⟩
    obtain ⟨s', q', rfl⟩ := clean_get q
    cases c : s'.clean.isCell with
    | false => rfl
    | true =>
      have z := h3 j s' e' q'
      rw [Slot.clean_cell c] at z; cases z
  · obtain ⟨a', qa, rfl⟩ := clean_get q1
    obtain ⟨b', qb, rfl⟩ := clean_get q2
    exact R.sep i j p a' b' ne e1 qa (Slot.clean_cell c1) e2 qb (Slot.clean_cell c2)
theorem SR.toX (R : SR rc en G H σ st) (h0 : rc.hx = none) (hc : rc'.cm = rc.cm) (hx : ∀ a c d fs, rc'.hx = some (a, c, d, fs) → (fs = [] ∧ d = none) ∨ ∃ dd fvs, d = some dd ∧ H dd = some (.xd fvs) ∧ RepF rc' G fvs fs) : SR rc' en G H σ st := by
  refine ⟨R.gh, R.g0, R.h0, R.fr, R.ioO, R.ioN, R.ioH, hx, R.len, fun i o s e q => ?_, R.kp, R.sep⟩
  have z := R.sl i o s e q
  cases s with
  | un => trivial
  | pure d => obtain ⟨v, h1, h2⟩ := z; exact ⟨v, h1, h2.toX h0 hc⟩
  | fr d =>
    obtain ⟨v, h1, h2, h3⟩ := z
    refine ⟨v, h1, h2.toX h0 hc, fun d0 ds e => ?_, fun ds e => ?_⟩
    · obtain ⟨t, v0, p, xs, k1, k2, k3, k4, k5, k6⟩ := h3.1 d0 ds e
      exact ⟨t, v0, p, xs, k1, k2, k3.toX h0 hc, k4, k5.toX h0 hc, k6⟩
    · obtain ⟨p, xs, k1, k4, k5, k6⟩ := h3.2 ds e
      exact ⟨p, xs, k1, k4, k5.toX h0 hc, k6⟩
  | cell d => obtain ⟨p, h1, h2, h3, h4⟩ := z; exact ⟨p, h1, h2, h3, h4.toX h0 hc⟩
  | io k d => obtain ⟨p, h1, h2, h4⟩ := z; exact ⟨p, h1, h2, h4.toX h0 hc⟩
end
/-- try: F, except (what isH says yes to) as the i-th name: F' -/
def sTry (i : Nat) (isH : Nat → Option Bool) (F F' : DS) : DS := fun st => match F st with
  | .exc x st1 => (match isH x.c with
    | some true => (match F' (st1.set i (.pure (.exc x.c x.fs))) with
      | .nx st2 => .nx ((st2.set i .un).map Slot.clean)
      | .rt d st2 => if noX d = true then .rt d (st2.map Slot.clean) else .stuck
      | _ => .stuck)
    | some false => .exc x st1
    | none => .stuck)
  | r => r
section
variable {X : Cx} {rc : RC X.K} {en : En} {W : WX}
theorem q_tryAs {x n : Str} {C : Addr} {i : Nat} {isH : Nat → Option Bool} {F F' : DS} {body suite : List Stmt} {b₀ : Stmt} {np pos pos' : Pos} (hrc : rc.hx = none) (hs : X.stack = X.env :: X.outer) (hf : X.env.frame = some X.env.locals) (hN : X.N.Nodup) (hg : Gl X x) (hd : (x == ("__debug__" : Str)) = false) (hm : X.mg x = some (.ref C)) (tk : L2N.Takes X W)
    (hex : ∀ k b, isH k = some b → PySem.W.exmOne X.K (.ref (rc.cm k)) (.ref C) = some b)
    (hb : ∀ (W : WX) (pn : List (Addr × Obj)) (xe : Value → Shared → Prop), L2N.Takes (X.tr pn xe) W → PassesOwn (model X.prog X.w) X.A X.env xe → PSs (X.tr pn xe) body (tS (K := X.K) rc en W F))
    (hsu : ∀ (a : Addr) (oe : Obj) (pn : List (Addr × Obj)) (rcX : RC X.K), rcX.cm = rc.cm → HotR (X.suite a ((a, oe) :: pn)) rcX (a, oe) → PSs (X.suite a ((a, oe) :: pn)) (b₀ :: suite) (tS (K := X.K) rcX en WF F'))
    (hi : X.N[i]? = some n := by rfl) (hln : X.env.kindOf n = some .local := by rfl) :
    PS X (.Try body [.ExceptHandler (some (.Name x np)) (some n) (b₀ :: suite) pos'] [] [] pos) (tS rc en W (sTry i isH F F')) := by
  refine (L2N.ps_try_as (i := i) (c := .ref C) (tb := fun W => tS (K := X.K) rc en W F) (ts := fun a cls d => fun D σ H => ∃ c fs, cls = .ref (rc.cm c) ∧ tS (K := X.K) ⟨rc.cm, some (a, c, d, fs)⟩ en WF F' D σ H) hs hf hN hi hln ⟨hg, hd, .inl hm⟩ tk hb (fun a oe cls d pn hz hv => ⟨fun pins s σ H D I ⟨c, fs, e, h⟩ => ?_⟩)).imp fun Dn σ H ⟨G, st, R, h⟩ => ⟨G, st, R, ?_⟩
  · obtain ⟨vs, hv⟩ := hv
    exact (hsu a oe pn ⟨rc.cm, some (a, c, d, fs)⟩ rfl ⟨⟨rfl, vs, hv, hz.2.2 vs hv⟩, List.mem_cons_self, c, d, fs, rfl, hz.1.trans e, hz.2.1⟩).run pins s σ H D I h
  · unfold sTry at h
    cases q : F st with
    | nx st' => rw [q] at h; exact h
    | bk st' => rw [q] at h; exact h
    | ct st' => rw [q] at h; exact h
    | rt d st' => rw [q] at h; exact h
    | rf d st' => rw [q] at h; exact h
    | stuck => rw [q] at h; exact h
    | exc x st1 =>
      rw [q] at h
      dsimp only at h
      intro cls dd σ' G' H' s' R' xr
      cases q2 : isH x.c with
      | none => rw [q2] at h; exact h.elim
      | some b =>
        rw [q2] at h
        refine ⟨b, by rw [xr.1]; exact hex _ _ q2, fun hbt a ha => ?_, fun hbf => ?_⟩
        · subst hbt
          refine ⟨x.c, x.fs, xr.1, ?_⟩
          have R1 : SR (K := X.K) ⟨rc.cm, some (a, x.c, dd, x.fs)⟩ en G' H' σ' st1 := R'.toX hrc rfl fun a' c' d' fs' e => by
            cases e
            rcases xr.2 with z | ⟨d1, fvs, z1, z2, z3⟩
            · exact .inl z
            · exact .inr ⟨d1, fvs, z1, z2, RepF.toX (rc' := ⟨rc.cm, some (a, x.c, dd, x.fs)⟩) hrc rfl z3⟩
          refine ⟨G', _, R1.setPure i (.exc rfl), ?_⟩
          dsimp only at h
          cases q3 : F' (st1.set i (.pure (.exc x.c x.fs))) with
          | nx st2 =>
            rw [q3] at h
            exact fun σ2 G2 H2 s2 R2 => h (σ2.set i none) G2 H2 (s'.trans s2) ((R2.setUn none i).clean rfl hrc)
          | rt d st2 =>
            rw [q3] at h
            dsimp only at h
            by_cases n : noX d = true
            · rw [if_pos n] at h
              exact fun v σ2 G2 H2 s2 R2 rv => h v σ2 G2 H2 (s'.trans s2) (R2.clean rfl hrc) (Rep.ofX (rc := ⟨rc.cm, some (a, x.c, dd, x.fs)⟩) (rc' := rc) rfl rv n)
            · rw [if_neg n] at h; exact h.elim
          | bk st2 => rw [q3] at h; exact h.elim
          | ct st2 => rw [q3] at h; exact h.elim
          | rf d st2 => rw [q3] at h; exact h.elim
          | exc y st2 => rw [q3] at h; exact h.elim
          | stuck => rw [q3] at h; exact h.elim
        · subst hbf
          exact h cls dd σ' G' H' s' R' xr
end
end U
set_option maxRecDepth 100000
set_option maxHeartbeats 4000000
/-! PL16: a pair with a new list, handed out; the list changed by the one who got it. -/
namespace U
open PySem PySem.Spec PyProof.Rows L2
/-! ### blocks of a def's own level -/
def tS0 {K : PySem.W.Frag} (rc : RC K) (en : En) (W : WX) (F : DS) : TS := fun Dn σ H => ∃ G st, SR rc en G H σ st ∧ EndS rc en W en.G0 (F st) Dn
section
variable {X : Cx} {rc : RC X.K} {en : En} {W : WX} {st : Stmt} {rest : List Stmt} {F F' : DS}
theorem qs0_of (h : PSs X rest (tS rc en W F)) : PSs X rest (tS0 rc en W F) := h.imp fun D σ H ⟨G, st, R, h⟩ => ⟨G, st, R, EndS.up R.g0 h⟩
theorem qs0_cons (h1 : PS X st (tS rc en W F)) (h2 : PSs X rest (tS0 rc en W F')) : PSs X (st :: rest) (tS0 rc en W (sSeq F F')) := (pss_cons h1 h2).imp fun D σ H ⟨G, st, R, h⟩ => ⟨G, st, R, EndS.up R.g0 (by
  unfold sSeq at h
  cases q : F st with
  | nx st' => rw [q] at h; exact fun σ' G' H' s' R' => ⟨G', st', R', h⟩
  | bk st' => rw [q] at h; exact h
  | ct st' => rw [q] at h; exact h
  | rt d st' => rw [q] at h; exact h
  | rf d st' => rw [q] at h; exact h
  | exc x st' => rw [q] at h; exact h
  | stuck => rw [q] at h; exact h)⟩
end
/-! ### a list that is let be changed again -/
mutual
def noL : D → Bool
  | .non => true
  | .bl _ => true
  | .int _ => true
  | .str _ => true
  | .tup ds => noLs ds
  | _ => false
def noLs : List D → Bool
  | [] => true
  | d :: ds => noL d && noLs ds
end
section
variable {K : PySem.W.Frag} {rc : RC K} {G H : Hp} {p : Addr} {zs : List V}
mutual
theorem Rep.dry (hp : G p = some (.lst zs)) : ∀ {v : V} {d : D}, Rep rc G v d → noL d = true → Rep rc (del G p) v d
  | _, _, .non, _ => .non
  | _, _, .bl b, _ => .bl b
  | _, _, .int i, _ => .int i
  | _, _, .str x, _ => .str x
  | _, _, .tup (a := a) h r, e => by
    refine .tup ?_ (Reps.dry hp r (by simpa [noL] using e))
    rcases h with (h | ⟨o, h⟩) | h
    · exact .inl (.inl (by rw [del_ne (fun z => by rw [z, hp] at h; cases h)]; exact h))
    · exact .inl (.inr ⟨o, by rw [del_ne (fun z => by rw [z, hp] at h; cases h)]; exact h⟩)
    · exact .inr h
  | _, _, .lst _ _, e => by simp [noL] at e
  | _, _, .scr _ _, e => by simp [noL] at e
  | _, _, .ins _ _, e => by simp [noL] at e
  | _, _, .exc _, e => by simp [noL] at e
  | _, _, .cls, e => by simp [noL] at e
theorem Reps.dry (hp : G p = some (.lst zs)) : ∀ {v : List V} {d : List D}, Reps rc G v d → noLs d = true → Reps rc (del G p) v d
  | _, _, .nil, _ => .nil
  | _, _, .cons h r, e => by
    rw [noLs, Bool.and_eq_true] at e
    exact .cons (Rep.dry hp h e.1) (Reps.dry hp r e.2)
end
def Slot.dry : Slot → Slot
  | .pure d => if noL d = true then .pure d else .un
  | _ => .un
theorem Slot.dry_cell (s : Slot) : s.dry.isCell = false := by
  cases s with
  | pure d =>
    show (if noL d = true then Slot.pure d else Slot.un).isCell = false
    split <;> rfl
  | _ => rfl
def thawD (j : Nat) (st : DSt) : Option DSt := match st[j]? with
  | some (.fr (.lst ds)) => if noLs ds = true then some ((st.map Slot.dry).set j (.cell (.lst ds))) else none
  | _ => none
theorem SR.thaw {en : En} {σ : L2.St} {st st' : DSt} {j : Nat} (R : SR rc en G H σ st) (hx : rc.hx = none) (hen : Same en.G0 en.H0) (h : thawD j st = some st') : ∃ G', SR rc en G' H σ st' := by
  unfold thawD at h
  cases q : st[j]? with
  | none => rw [q] at h; cases h
  | some s =>
    rw [q] at h
    cases s with
    | un => cases h
    | pure _ => cases h
    | cell _ => cases h
    | io _ _ => cases h
    | fr d =>
      cases d with
      | lst ds =>
        have h' : (if noLs ds = true then some ((st.map Slot.dry).set j (.cell (.lst ds))) else none) = some st' := h
        by_cases z : noLs ds = true
        · rw [if_pos z] at h'
          cases h'
          obtain ⟨v, ev, rv, nw⟩ := R.frd q
          obtain ⟨p, xs, rfl, hp, r, n0⟩ := nw.2 ds rfl
          have hj : j < st.length := (List.getElem?_eq_some_iff.mp q).1
          have get : ∀ {i : Nat} {s : Slot}, ((st.map Slot.dry).set j (.cell (.lst ds)))[i]? = some s → (i = j ∧ s = .cell (.lst ds)) ∨ (i ≠ j ∧ ∃ s', st[i]? = some s' ∧ s = s'.dry) := fun {i s} e => by
            rcases get_set_cases e with ⟨rfl, rfl⟩ | ⟨ne, e'⟩
            · exact .inl ⟨rfl, rfl⟩
            · refine .inr ⟨Ne.symm ne, ?_⟩
              rw [List.getElem?_map] at e'
              cases q2 : st[i]? with
              | none => rw [q2] at e'; cases e'
              | some s' => rw [q2] at e'; cases e'; exact ⟨s', rfl, rfl⟩
          have only : ∀ {i : Nat} {s : Slot}, ((st.map Slot.dry).set j (.cell (.lst ds)))[i]? = some s → s.isCell = true → i = j := fun {i s} e c => by
            rcases get e with ⟨e1, _⟩ | ⟨_, s', _, rfl⟩
            · exact e1
            · rw [Slot.dry_cell] at c; cases c
          refine ⟨del G p, ⟨fun b u e => ?_, fun b u e => ?_, R.h0, fun a ha n => ?_, R.ioO, R.ioN, R.ioH, fun a c d fs e => (by rw [hx] at e; cases e), by rw [List.length_set, List.length_map]; exact R.len, fun i o s e e2 => ?_, fun a u e => ?_, fun a b w sa sb ne e1 q1 c1 e2 q2 c2 => ne ((only q1 c1).trans (only q2 c2).symm)⟩⟩
          · by_cases hb : b = p
            · rw [hb, del_same] at e; cases e
            · rw [del_ne hb] at e; exact R.gh _ _ e
          · have hb : b ≠ p := fun z => by
              have := hen.free n0
              rw [z, this] at e; cases e
            rw [del_ne hb]; exact R.g0 _ _ e
          · by_cases hb : a = p
            · rw [hb, del_same]
            · rw [del_ne hb]; exact R.fr a ha n
          · rcases get e2 with ⟨rfl, rfl⟩ | ⟨_, s', e3, rfl⟩
            · rw [ev] at e; cases e
              exact ⟨p, rfl, del_same, n0, xs, R.gh _ _ hp, r.dry hp z⟩
            · have y := R.sl i o s' e e3
              cases s' with
              | pure d =>
                obtain ⟨w, h1, h2⟩ := y
                show SlotR rc en (del G p) H o (if noL d = true then Slot.pure d else Slot.un)
                by_cases n : noL d = true
                · rw [if_pos n]; exact ⟨w, h1, h2.dry hp n⟩
                · rw [if_neg n]; trivial
              | _ => trivial
          · obtain ⟨h1, h2, h3⟩ := R.kp a u e
            have hb : a ≠ p := fun z => by rw [z, hp] at h2; cases h2
            refine ⟨h1, by rw [del_ne hb]; exact h2, fun i s e1 e2 => ?_⟩
            cases c : s.isCell with
            | false => rfl
            | true =>
              have ij := only e2 c
              rw [ij, ev] at e1
              exact absurd (V.ref.inj (Option.some.inj (Option.some.inj e1))).symm hb
        · rw [if_neg z] at h'; cases h'
      | _ => cases h
end
def sThaw (j : Nat) : DS := fun st => optS (thawD j st)
section
variable {X : Cx} {rc : RC X.K} {en : En} {W : WX} {rest : List Stmt} {F' : DS}
theorem qs0_thaw (j : Nat) (hx : rc.hx = none) (hen : Same en.G0 en.H0) (h2 : PSs X rest (tS0 rc en W F')) : PSs X rest (tS0 rc en W (sSeq (sThaw j) F')) := h2.imp fun D σ H ⟨G, st, R, h⟩ => by
  unfold sSeq sThaw at h
  cases q : thawD j st with
  | none => rw [q] at h; exact h.elim
  | some st' =>
    rw [q] at h
    obtain ⟨G', R'⟩ := R.thaw hx hen q
    exact ⟨G', st', R', h⟩
/-! ### name = f(..), told = name[1] -/
end
section
variable {K : PySem.W.Frag} {rc : RC K} {en : En} {G H : Hp} {σ : L2.St} {st : DSt}
theorem SR.setFr (R : SR rc en G H σ st) {v : V} {d : D} (i : Nat) (r : Rep rc G v d) (n : Nw rc G en.H0 v d) : SR rc en G H (σ.set i (some v)) (st.set i (.fr d)) := by
  have R1 := R.setPure i r
  refine ⟨R1.gh, R1.g0, R1.h0, R1.fr, R1.ioO, R1.ioN, R1.ioH, R1.hx, by rw [List.length_set, List.length_set]; exact R.len, fun j o s e q => ?_, fun a u e => ?_, fun a b p sa sb ne e1 q1 c1 e2 q2 c2 => ?_⟩
  · rcases get_set_cases q with ⟨rfl, rfl⟩ | ⟨ne, q'⟩
    · rcases get_set_cases e with ⟨_, rfl⟩ | ⟨ne, _⟩
      · exact ⟨v, rfl, r, n⟩
      · exact absurd rfl ne
    · rcases get_set_cases e with ⟨h, _⟩ | ⟨_, e'⟩
      · exact absurd h ne
      · exact R.sl j o s e' q'
  · exact ⟨(R.kp a u e).1, (R.kp a u e).2.1, (R.kp a u e).2.2.set fun c => by cases c⟩
  · rcases get_set_cases q1 with ⟨_, rfl⟩ | ⟨n1, q1'⟩
    · cases c1
    rcases get_set_cases q2 with ⟨_, rfl⟩ | ⟨n2, q2'⟩
    · cases c2
    exact R1.sep a b p sa sb ne e1 (by rw [List.getElem?_set_ne n1]; exact q1') c1 e2 (by rw [List.getElem?_set_ne n2]; exact q2') c2
end
/-- the promise of a def that hands out what is new -/
def spN {K : PySem.W.Frag} (rc : RC K) (sem : Fn) : Sp := fun vs H Q E => ∃ G as ps, Same G H ∧ ArgsR rc G H vs as ps ∧ match sem as with
  | .ok d outs => ∀ v G' H', After G H ps G' H' → CellsR rc G' H' ps outs → Rep rc G' v d → Nw rc G' H v d → Q v H'
  | .exc x => ∀ cls dd G' H', After G H ps G' H' → XRep rc G' H' cls dd x → E cls dd H'
  | _ => False
theorem spN.toU {K : PySem.W.Frag} {rc : RC K} {sem : Fn} {vs : List V} {H : Hp} {Q : VK} {E : XK} (hs : ∀ as d os, sem as ≠ .okf d os) (h : spU rc sem vs H Q E) : spN rc sem vs H Q E := by
  obtain ⟨G, as, ps, g, r, h⟩ := h
  refine ⟨G, as, ps, g, r, ?_⟩
  cases q : sem as with
  | ok d outs => rw [q] at h; exact fun v G' H' a c rv _ => h v G' H' a c rv
  | okf d outs => exact absurd q (hs _ _ _)
  | exc x => rw [q] at h; exact h
  | stuck => rw [q] at h; exact h
structure DefN (X : Cx) (rc : RC X.K) (x : Str) (k : Nat) (n : Nat) (sem : Fn) : Prop where
  ex : ∃ f fd ps, FnOk X.prog X.w X.K X.mg X.base (L2N.CX X.prog X.w) k f fd ps (fun vs H Q E => vs.length = ps.length ∧ spN rc sem vs H Q E) ∧ X.mg x = some (.ref f) ∧ PySem.W.keepIn X.K (.ref f) = true ∧ Binds X.K fd ps [] ∧ ps.length = n
  nf : ∀ as d os, sem as ≠ .okf d os
theorem DefN.ok {X : Cx} {rc : RC X.K} {x : Str} {k n : Nat} {sem : Fn} (F : DefN X rc x k n sem) : DefOk X rc x k n sem := by
  obtain ⟨f, fd, ps, F1, hm, hk, hb, hn⟩ := F.ex
  exact ⟨f, fd, ps, [], [], F1.imp (fun vs H Q E h => ⟨h.1, spN.toU F.nf h.2⟩), hm, hk, hb, .nil, rfl, hn⟩
/-- i = f(..), the arguments plain -/
def sSetN (i : Nat) (sem : Fn) (n : Nat) (fl : DA) : DS := fun st => (fl st).toS fun ds st1 => if ds.length = n then (match sem (ds.map .p) with
  | .ok d [] => .nx (st1.set i (.fr d))
  | .exc x => .exc x st1
  | _ => .stuck) else .stuck
section
variable {X : Cx} {rc : RC X.K} {en : En} {W : WX} {e : Expr} {es : List Expr} {pos p1 : Pos}
theorem q_setN {i : Nat} {x y : Str} {k n : Nat} {sem : Fn} {fl : DA} {py spos : Pos} (tk : L2N.Takes X W) (F : DefN X rc x k n sem) (hr : Room k X.A) (hN : X.N.Nodup) (ha : PA X (e :: es) (tL rc en W fl)) (hg : Gl X x := by rfl) (hi : X.N[i]? = some y := by rfl) (hx : Loc X.env.scope y := by first | exact Or.inl rfl | exact Or.inr rfl) (hdb : (x == ("__debug__" : Str)) = false := by decide) (he : starEach (e :: es) X.env = (false, eval e X.env) :: starEach es X.env := by rfl) (hpl : (backTo pos (starEach es X.env)).any (·.1) = false := by rfl)
    (hs : swapsWith (.Call (.Name x p1) (e :: es) [] pos) (some (.Name y py)) spos.line X.env = pure false := by rfl) (hf : X.fn y = true ∨ X.env.scope.names.lookup y = some .local := by first | exact .inl rfl | exact .inr rfl | assumption) :
    PS X (.Assign [.Name y py] (.Call (.Name x p1) (e :: es) [] pos) spos) (tS rc en W (sSetN i sem n fl)) := by
  obtain ⟨f, fd, ps, F1, hm, hk, hb, hn⟩ := F.ex
  refine (ps_set hN hi hx (pe_callSD F1 hr hg hm hk hb .nil (fun σ => L2N.passAt tk σ) ha hdb he hpl) hs hf).imp fun Dn σ H ⟨G, st, R, h⟩ => ⟨G, st, R, (EndS.of h).imp fun ds st1 G1 H1 s1 R1 h1 vs rvs => ?_⟩
  show (vs ++ []).length = ps.length ∧ spN rc sem (vs ++ []) H1 _ _
  rw [List.append_nil]
  by_cases z : ds.length = n
  · rw [if_pos z] at h1
    refine ⟨by rw [rvs.length, z, hn], G1, _, [], R1.gh, argsR_ps rvs, ?_⟩
    cases q2 : sem (ds.map .p) with
    | ok d outs =>
      rw [q2] at h1
      cases outs with
      | nil =>
        intro v G' H' af cr rv nw
        have R2 := R1.grow af.grow
        refine h1 _ G' H' af.g (R2.setFr i rv ⟨fun d0 ds e => ?_, fun ds e => ?_⟩)
        · obtain ⟨t, v0, q, xs, k1, k2, k3, k4, k5, k6⟩ := nw.1 d0 ds e
          exact ⟨t, v0, q, xs, k1, k2, k3, k4, k5, Classical.byContradiction fun z => R1.live z k6⟩
        · obtain ⟨q, xs, k1, k4, k5, k6⟩ := nw.2 ds e
          exact ⟨q, xs, k1, k4, k5, Classical.byContradiction fun z => R1.live z k6⟩
      | cons _ _ => exact h1.elim
    | okf d outs => rw [q2] at h1; exact h1.elim
    | exc x =>
      rw [q2] at h1
      exact fun cls dd G' H' af xr => h1 cls dd σ G' H' af.g (R1.grow af.grow) xr
    | stuck => rw [q2] at h1; exact h1.elim
  · rw [if_neg z] at h1; exact h1.elim
def sUnp (i j : Nat) : DS := fun st => match st[i]? with
  | some (.fr (.tup [_, .lst ds])) => .nx (st.set j (.fr (.lst ds)))
  | _ => .stuck
theorem q_unp (i : Nat) {j : Nat} {x y : Str} {px py p2 spos : Pos} {tk : Nat} (hN : X.N.Nodup) (hiN : X.N[i]? = some x := by rfl) (hv : Vis X.env.scope x := by first | exact Or.inl rfl | exact Or.inr (Or.inl rfl) | exact Or.inr (Or.inr rfl)) (hi : X.N[j]? = some y := by rfl) (hx : Loc X.env.scope y := by first | exact Or.inl rfl | exact Or.inr rfl)
    (hs : swapsWith (.Subscript (.Name x px) (.Constant (.int 1) tk p2) pos) (some (.Name y py)) spos.line X.env = pure false := by rfl) (hf : X.fn y = true ∨ X.env.scope.names.lookup y = some .local := by first | exact .inl rfl | exact .inr rfl | assumption) (hd : (x == ("__debug__" : Str)) = false := by decide) (hcd : (x == ("__classdict__" : Str)) = false := by decide) :
    PS X (.Assign [.Name y py] (.Subscript (.Name x px) (.Constant (.int 1) tk p2) pos) spos) (tS rc en W (sUnp i j)) := (ps_set hN hi hx (pe_ix ix_seq (pe_var hiN hv hd hcd) pe_int (fun _ _ => rfl)) hs hf).imp fun Dn σ H ⟨G, st, R, h⟩ => by
  unfold sUnp at h
  cases q : st[i]? with
  | none => rw [q] at h; exact h.elim
  | some s =>
    rw [q] at h
    cases s with
    | fr d =>
      cases d with
      | tup l =>
        cases l with
        | nil => exact h.elim
        | cons d0 l =>
          cases l with
          | nil => exact h.elim
          | cons d1 l =>
            cases d1 with
            | lst ds =>
              cases l with
              | nil =>
                obtain ⟨v, ev, rv, nw⟩ := R.frd q
                obtain ⟨t, v0, p, xs, rfl, k2, k3, k4, k5, k6⟩ := nw.1 d0 ds rfl
                refine ⟨_, ev, .inr (.inl ⟨t, [v0, .ref p], 1, .ref p, rfl, rfl, Same.seqT R.gh k2, rfl, ?_⟩)⟩
                exact h _ G H (L2.Same.refl _) (R.setFr j (.lst k4 k5) ⟨fun d0 ds e => (by cases e), fun ds' e => (by cases e; exact ⟨p, xs, rfl, k4, k5, k6⟩)⟩)
              | cons _ _ => exact h.elim
            | _ => exact h.elim
      | _ => exact h.elim
    | _ => exact h.elim
end
end U
set_option maxRecDepth 100000
set_option maxHeartbeats 4000000
/-! PL17: defs whose own block thaws a list; defs that hand out a new pair; calls that are given plain data alone. -/
namespace U
open PySem PySem.Spec PyProof.Rows L2
def noP : D → Bool
  | .tup [_, .lst _] => false
  | .lst _ => false
  | _ => true
/-- F, then return (s, the i-th name) -/
def runN (n : Nat) (F : DS) (s : Str) (i : Nat) : Fn := fun as => match F (initA 0 as ++ List.replicate (n - as.length) .un) with
  | .nx st => (match outsN 0 (nCells as) st, st[i]? with
    | some os, some (.cell (.lst ds)) => .ok (.tup [.str s, .lst ds]) os
    | some os, some (.pure d) => if noP d = true then .ok (.tup [.str s, d]) os else .stuck
    | _, _ => .stuck)
  | .rt d st => (match outsN 0 (nCells as) st with
    | some os => if noP d = true then .ok d os else .stuck
    | none => .stuck)
  | .exc x _ => .exc x
  | _ => .stuck
theorem Nw.no {K : PySem.W.Frag} {rc : RC K} {G H0 : Hp} {v : V} {d : D} (h : noP d = true) : Nw rc G H0 v d := ⟨fun d0 ds e => (by subst e; cases h), fun ds e => (by subst e; cases h)⟩
section
variable {P : Program} {w : World} {K : PySem.W.Frag} {mg : Str → Option Value} {base : Heap} {rc : RC K}
/-- the entry, the end -/
theorem fnU0 {x qual : Str} {params : Arguments} {body : List Stmt} {scope : Scope} {dvs : List V} {kws : List (Str × V)} {f : Addr} {fd : FuncData} {N ps : List Str} {k : Nat} {F : DS} (hh : rc.hx = none) (Fd : FunD K x qual params body scope dvs kws f fd) (S : FnScope N ps scope)
    (hbody : ∀ (cdv : Value) (A : Around) (outer : List Env) (s : Shared) (H : Hp) (E : XK) (en : En) (W : WX), Same en.G0 en.H0 → Room k (A.deeper (envOfC qual scope s.heap.objs.size f cdv)) → L2N.Takes (cxOf (L2N.CX P w) P w K mg base N qual scope f cdv A outer s H E) W →
      PSs (cxOf (L2N.CX P w) P w K mg base N qual scope f cdv A outer s H E) body (tS0 rc en W F)) :
    FnOk P w K mg base (L2N.CX P w) (k + 1) f fd ps (fun vs H Q E => vs.length = ps.length ∧ spU rc (runF N.length F) vs H Q E) := by
  refine Fd.ok S (fun vs H Q E h => h.1) (fun cdv A outer s H vs Q E hr ⟨hl, G, as, ios, gh, r, h⟩ => ?_)
  refine ⟨_, hbody cdv A outer s H E ⟨G, H, ios, fun _ => none⟩ (fun cls d _ H => E cls d H) gh hr (L2N.takes_of rfl rfl rfl rfl), ?_⟩
  have hpl : ps.length ≤ N.length := by have := congrArg List.length S.pre; rw [List.length_take] at this; omega
  have hal : as.length ≤ N.length := by rw [← r.len.1, hl]; exact hpl
  refine ⟨G, _, SR.start (fun a c d fs e => by rw [hh] at e; cases e) gh r hal, ?_⟩
  have ou : ∀ {σ' : L2.St} {st : DSt} {G' H' : Hp} {os : List D}, SR rc ⟨G, H, ios, fun _ => none⟩ G' H' σ' st → outsN 0 (nCells as) st = some os → CellsR rc G' H' ios os := fun R q => R.outs (k := 0) r.len.2 (fun j p hj => by simpa using hj) q
  unfold runF at h
  cases q : F (initA 0 as ++ List.replicate (N.length - as.length) Slot.un) with
  | nx st =>
    rw [q] at h
    dsimp only at h
    cases q2 : outsN 0 (nCells as) st with
    | none => rw [q2] at h; exact h.elim
    | some os => rw [q2] at h; exact fun σ' G' H' s R => h .non G' H' (SR.after (en := ⟨G, H, ios, fun _ => none⟩) R) (ou R q2) .non
  | rt d st =>
    rw [q] at h
    dsimp only at h
    cases q2 : outsN 0 (nCells as) st with
    | none => rw [q2] at h; exact h.elim
    | some os => rw [q2] at h; exact fun v σ' G' H' s R rv => h v G' H' (SR.after (en := ⟨G, H, ios, fun _ => none⟩) R) (ou R q2) rv
  | rf d st =>
    rw [q] at h
    dsimp only at h
    cases q2 : outsN 0 (nCells as) st with
    | none => rw [q2] at h; exact h.elim
    | some os => rw [q2] at h; exact fun p σ' G' H' s R gp h0 cr => h p G' H' (SR.after (en := ⟨G, H, ios, fun _ => none⟩) R) (ou R q2) h0 gp cr
  | exc x st => rw [q] at h; exact fun cls dd σ' G' H' s R X => h cls dd G' H' (SR.after (en := ⟨G, H, ios, fun _ => none⟩) R) X
  | bk st => rw [q] at h; exact h.elim
  | ct st => rw [q] at h; exact h.elim
  | stuck => rw [q] at h; exact h.elim
theorem fnN {x qual s0 y : Str} {params : Arguments} {st1 : Stmt} {scope : Scope} {dvs : List V} {kws : List (Str × V)} {f : Addr} {fd : FuncData} {N ps : List Str} {k i j0 j1 : Nat} {F : DS} {p0 p1 p2 p3 : Pos} (hh : rc.hx = none) (Fd : FunD K x qual params [st1, .Return (some (.Tuple [.Constant (.str s0) j0 p0, .Name y p1] j1 p2)) p3] scope dvs kws f fd) (S : FnScope N ps scope)
    (hbody : ∀ (cdv : Value) (A : Around) (outer : List Env) (s : Shared) (H : Hp) (E : XK) (en : En) (W : WX), Room k (A.deeper (envOfC qual scope s.heap.objs.size f cdv)) → L2N.Takes (cxOf (L2N.CX P w) P w K mg base N qual scope f cdv A outer s H E) W →
      PS (cxOf (L2N.CX P w) P w K mg base N qual scope f cdv A outer s H E) st1 (tS rc en W F))
    (hi : N[i]? = some y := by rfl) (hv : Vis scope y := by first | exact Or.inl rfl | exact Or.inr (Or.inl rfl)) (hd : (y == ("__debug__" : Str)) = false := by decide) (hcd : (y == ("__classdict__" : Str)) = false := by decide) :
    FnOk P w K mg base (L2N.CX P w) (k + 1) f fd ps (fun vs H Q E => vs.length = ps.length ∧ spN rc (runN N.length F s0 i) vs H Q E) := by
  refine Fd.ok S (fun vs H Q E h => h.1) (fun cdv A outer s H vs Q E hr ⟨hl, G, as, ios, gh, r, h⟩ => ?_)
  have tk := L2N.takes_of (X := cxOf (L2N.CX P w) P w K mg base N qual scope f cdv A outer s H E) rfl rfl rfl (E := E) rfl
  refine ⟨_, pss_cons (hbody cdv A outer s H E ⟨G, H, ios, fun _ => none⟩ (fun cls d _ H => E cls d H) hr tk) (pss_one (ps_ret (pe_tup (pa_cons pe_str (pa_cons (pe_var hi hv hd hcd) pa_nil (by rfl)) (by rfl))))), ?_⟩
  have hpl : ps.length ≤ N.length := by have := congrArg List.length S.pre; rw [List.length_take] at this; omega
  have hal : as.length ≤ N.length := by rw [← r.len.1, hl]; exact hpl
  refine ⟨G, _, SR.start (fun a c d fs e => by rw [hh] at e; cases e) gh r hal, ?_⟩
  have ou : ∀ {σ' : L2.St} {st : DSt} {G' H' : Hp} {os : List D}, SR rc ⟨G, H, ios, fun _ => none⟩ G' H' σ' st → outsN 0 (nCells as) st = some os → CellsR rc G' H' ios os := fun R q => R.outs (k := 0) r.len.2 (fun j p hj => by simpa using hj) q
  unfold runN at h
  cases q : F (initA 0 as ++ List.replicate (N.length - as.length) Slot.un) with
  | nx st =>
    rw [q] at h
    dsimp only at h
    intro σ' G' H' s' R
    cases q2 : outsN 0 (nCells as) st with
    | none => rw [q2] at h; exact h.elim
    | some os =>
      rw [q2] at h
      cases q3 : st[i]? with
      | none => rw [q3] at h; exact h.elim
      | some sl =>
        rw [q3] at h
        cases sl with
        | pure d =>
          dsimp only at h
          by_cases n : noP d = true
          · rw [if_pos n] at h
            obtain ⟨v, ev, rv⟩ := R.pure q3
            refine ⟨v, ev, by show 2 ≤ sizeLine; rw [sizeLine_eq]; omega, fun p hp => ?_⟩
            have g := Grow.new (o := .tup [.str s0, v]) R.gh hp
            have R2 := R.grow g
            refine h _ _ _ (SR.after (en := ⟨G, H, ios, fun _ => none⟩) R2) (ou R2 q2) (.tup (SqT.of upd_same) (.cons (.str _) (.cons (rv.mono g.g) .nil))) (Nw.no ?_)
            cases d with
            | lst ds => cases n
            | _ => rfl
          · rw [if_neg n] at h; exact h.elim
        | cell d =>
          cases d with
          | lst ds =>
            obtain ⟨a, e, ga, h0, xs, ha, rxs⟩ := R.cell q3
            refine ⟨.ref a, e, by show 2 ≤ sizeLine; rw [sizeLine_eq]; omega, fun p hp => ?_⟩
            obtain ⟨a', o, e', ho, _, rp, sG, R1⟩ := R.freeze q3
            rw [e] at e'; cases e'
            rw [ha] at ho; cases ho
            have g := Grow.new (o := .tup [.str s0, .ref a]) R1.gh hp
            have R2 := R1.grow g
            have nap : a ≠ p := fun z => by rw [z, hp] at ha; cases ha
            have q2' : outsN 0 (nCells as) (st.set i (.pure (.lst ds))) = some os := by
              rw [← q2]
              have one : ∀ k' : Nat, ∀ (l : List Slot) (i : Nat), l[i]? = some (.cell (.lst ds)) → outs1 k' (l.set i (.pure (.lst ds))) = outs1 k' l := by
                intro k' l
                induction l with
                | nil => intro i e; cases e
                | cons s l ih =>
                  intro i e
                  cases i with
                  | zero => cases e; rfl
                  | succ i =>
                    have e' : l[i]? = some (.cell (.lst ds)) := e
                    rw [List.set_cons_succ]
                    cases s <;> first | exact ih i e' | (unfold outs1; rw [ih i e'])
              have all : ∀ (m k' : Nat), outsN k' m (st.set i (.pure (.lst ds))) = outsN k' m st := by
                intro m
                induction m with
                | zero => intro k'; rfl
                | succ m ih => intro k'; unfold outsN; rw [one k' st i q3, ih]
              exact all _ _
            refine h _ _ _ (SR.after (en := ⟨G, H, ios, fun _ => none⟩) R2) (ou R2 q2') (.tup (SqT.of upd_same) (.cons (.str _) (.cons (rp.mono g.g) .nil))) ⟨fun d0 ds' e => ?_, fun ds' e => by cases e⟩
            cases e
            refine ⟨p, .str s0, a, xs, rfl, SqT.of upd_same, .str _, ?_, (rxs.mono sG).mono g.g, h0⟩
            rw [upd_ne nap, upd_same]
          | _ => exact h.elim
        | un => exact h.elim
        | fr d => exact h.elim
        | io k' d => exact h.elim
  | rt d st =>
    rw [q] at h
    dsimp only at h
    cases q2 : outsN 0 (nCells as) st with
    | none => rw [q2] at h; exact h.elim
    | some os =>
      rw [q2] at h
      dsimp only at h
      by_cases n : noP d = true
      · rw [if_pos n] at h
        exact fun v σ' G' H' s R rv => h v G' H' (SR.after (en := ⟨G, H, ios, fun _ => none⟩) R) (ou R q2) rv (Nw.no n)
      · rw [if_neg n] at h; exact h.elim
  | exc x st => rw [q] at h; exact fun cls dd σ' G' H' s R X => h cls dd G' H' (SR.after (en := ⟨G, H, ios, fun _ => none⟩) R) X
  | rf d st => rw [q] at h; exact h.elim
  | bk st => rw [q] at h; exact h.elim
  | ct st => rw [q] at h; exact h.elim
  | stuck => rw [q] at h; exact h.elim
end
end U
set_option maxRecDepth 100000
set_option maxHeartbeats 4000000
/-! PL18: name = [.. for .. for ..] on one line; lists and tuples walked alike. -/
namespace U
open PySem PySem.Spec PyProof.Rows L2
section
variable {X : Cx} {rc : RC X.K} {en : En} {W : WX} {a : Expr} {fa : DE} {pos : Pos}
theorem q_setLc2 {i : Nat} {y : Str} {py spos : Pos} {elt tg iter tg1 iter1 : Expr} {ifs ifs1 : List Expr} {scope : Scope} {own : List (Str × Nat)} {vs1 : List Nat} {fi fi1 : DA} {t t1 : TgD} {ts ts1 : List Nat} {ft ft1 : DT} {fe : DE} (hc : X.calm = true) (hN : X.N.Nodup)
    (hsw : swapsWith (.ListComp elt [⟨tg, iter, ifs, 0⟩, ⟨tg1, iter1, ifs1, 0⟩] scope pos) (some (.Name y py)) spos.line X.env = pure true) (hi : PI X tg iter (tI rc en W fi)) (ok : BlkOk X.N X.env.scope scope own)
    (hg : ∀ (en : En) (s : Shared) (H : Hp) (C : Addr) (cl : List (Str × Addr)) (fp : List Addr), PG (X.blk s H scope (compEnvC scope cl C X.env) fp) tg (tGt (X := X.blk s H scope (compEnvC scope cl C X.env) fp) rc en t ts))
    (ht : ∀ (en : En) (s : Shared) (H : Hp) (C : Addr) (cl : List (Str × Addr)) (fp : List Addr), PTs (X.blk s H scope (compEnvC scope cl C X.env) fp) ifs (tD rc en WF ft))
    (hi1 : ∀ (en : En) (s : Shared) (H : Hp) (C : Addr) (cl : List (Str × Addr)) (fp : List Addr), PI (X.blk s H scope (compEnvC scope cl C X.env) fp) tg1 iter1 (tI (X := X.blk s H scope (compEnvC scope cl C X.env) fp) rc en WF fi1))
    (hg1 : ∀ (en : En) (s : Shared) (H : Hp) (C : Addr) (cl : List (Str × Addr)) (fp : List Addr), PG (X.blk s H scope (compEnvC scope cl C X.env) fp) tg1 (tGt (X := X.blk s H scope (compEnvC scope cl C X.env) fp) rc en t1 ts1))
    (ht1 : ∀ (en : En) (s : Shared) (H : Hp) (C : Addr) (cl : List (Str × Addr)) (fp : List Addr), PTs (X.blk s H scope (compEnvC scope cl C X.env) fp) ifs1 (tD rc en WF ft1))
    (he : ∀ (en : En) (s : Shared) (H : Hp) (C : Addr) (cl : List (Str × Addr)) (fp : List Addr), PE (X.blk s H scope (compEnvC scope cl C X.env) fp) elt (tU rc en WF fe))
    (hts : ∀ i ∈ ts, i ∈ own.map (·.2) := by decide) (hts1 : ∀ i ∈ ts1, i ∈ vs1 := by decide) (hv : ∀ i ∈ vs1, i ∈ own.map (·.2) := by decide) (hs : ∀ x, foldedSetIterable iter X.env x = pure x := by intro _; rfl) (hs1 : ∀ env x, foldedSetIterable iter1 env x = pure x := by intro _ _; rfl)
    (hy : X.N[i]? = some y := by rfl) (hyl : X.env.scope.names.lookup y = some .local := by rfl) :
    PS X (.Assign [.Name y py] (.ListComp elt [⟨tg, iter, ifs, 0⟩, ⟨tg1, iter1, ifs1, 0⟩] scope pos) spos) (tS rc en W (sSetF i (dLc2 fi (own.map (·.2)) t ft fi1 vs1 t1 ft1 fe))) :=
  (ps_setLc2 (g := fun v σ H Q => ∃ en', tGt rc en' t ts v σ H Q) (tt := fun σ H Q => ∃ en', tD rc en' WF ft σ H Q) (wi1 := fun σ H R => ∃ en', tI rc en' WF fi1 σ H R) (g1 := fun v σ H Q => ∃ en', tGt rc en' t1 ts1 v σ H Q) (tt1 := fun σ H Q => ∃ en', tD rc en' WF ft1 σ H Q) (te := fun σ H Q => ∃ en', tU rc en' WF fe σ H Q) hc hN hy hyl hsw hi ok hv
    (fun s H C cl fp => ⟨fun pins s' σ H' v u Q I r ⟨en', h⟩ => (hg en' s H C cl fp).run pins s' σ H' v u Q I r h⟩) (fun s H C cl fp => ⟨fun pins s' σ H' Q I ⟨en', h⟩ => (ht en' s H C cl fp).run pins s' σ H' Q I h⟩)
    (fun s H C cl fp => ⟨fun pins s' σ H' Q I ⟨en', h⟩ => (hi1 en' s H C cl fp).run pins s' σ H' Q I h⟩)
    (fun s H C cl fp => ⟨fun pins s' σ H' v u Q I r ⟨en', h⟩ => (hg1 en' s H C cl fp).run pins s' σ H' v u Q I r h⟩) (fun s H C cl fp => ⟨fun pins s' σ H' Q I ⟨en', h⟩ => (ht1 en' s H C cl fp).run pins s' σ H' Q I h⟩)
    (fun s H C cl fp => ⟨fun pins s' σ H' Q I ⟨en', h⟩ => (he en' s H C cl fp).run pins s' σ H' Q I h⟩) hs hs1).imp fun Dn σ H h => tF_lc2 hts hts1 hv (EndS.F h)
/-- a list or a tuple -/
def iSq (fa : DE) : DA := fun st => (fa st).bind fun d st' => match d with
  | .lst ds => .ok ds st'
  | .scr ds => .ok ds st'
  | .tup ds => .ok ds st'
  | _ => .stuck
theorem w_seq {tg : Expr} (ha : PE X a (tU rc en W fa)) : PI X tg a (tI rc en W (iSq fa)) := by
  have h1 := w_list (tg := tg) ha
  have h2 := w_tup (tg := tg) ha
  refine ⟨fun pins s σ H R' I ⟨G, st, R, h⟩ => ?_⟩
  unfold iSq at h
  cases q : fa st with
  | stuck => rw [q] at h; exact h.elim
  | exc x st' =>
    rw [q] at h
    refine h1.run pins s σ H R' I ⟨G, st, R, ?_⟩
    unfold iL
    rw [q]
    exact h
  | ok d st' =>
    rw [q] at h
    cases d with
    | tup ds =>
      refine h2.run pins s σ H R' I ⟨G, st, R, ?_⟩
      unfold iT
      rw [q]
      exact h
    | lst ds =>
      refine h1.run pins s σ H R' I ⟨G, st, R, ?_⟩
      unfold iL
      rw [q]
      exact h
    | scr ds =>
      refine h1.run pins s σ H R' I ⟨G, st, R, ?_⟩
      unfold iL
      rw [q]
      exact h
    | _ => exact h.elim
/-- the same def, seen from a block, a try's body, a suite -/
theorem DefOk.at {X' : Cx} {x : Str} {k n : Nat} {sem : Fn} (F : DefOk X rc x k n sem) (h1 : X'.prog = X.prog) (h2 : X'.w = X.w) (h3 : X'.K = X.K) (h4 : X'.mg = X.mg) (h5 : X'.base = X.base) {rc' : RC X'.K} (h6 : HEq rc' rc) : DefOk X' rc' x k n sem := by
  obtain ⟨p1, w1, K1, m1, b1, _⟩ := X
  obtain ⟨p2, w2, K2, m2, b2, _⟩ := X'
  dsimp only at h1 h2 h3 h4 h5
  subst h1 h2 h3 h4 h5
  cases h6
  exact ⟨F.ex⟩
theorem range_len (lo hi : Int) : (rangeD lo hi).length = (hi - lo).toNat := by simp [rangeD]
end
end U
set_option maxRecDepth 100000
set_option maxHeartbeats 4000000
/-! PL19: what the head tells of own errors. -/
namespace U
open PySem PySem.Spec PyProof.Rows L2
def oexB (K : PySem.W.Frag) (C : Addr) : Bool := (match K.lookup C with
  | some ⟨.type "type", _, .cls cd, sl⟩ => (match cd.mro, sl.toList with
    | .ref C' :: bm, [_, _, _, _, some (.builtin n), _] => C' == C && n == "ValueError.__new__" && !cd.hasDel && cd.hasDict && PySem.HandSPX.refsVE bm
    | _, _ => false)
  | _ => false) && decide (PySem.W.findIn K (.ref C) "__setattr__" = some (some (.builtin "object.__setattr__"))) && decide (PySem.W.subIn K (.ref C) (.type "BaseException") = some true) && decide (PySem.W.typeIn K (.ref C) = some (.type "type")) && PySem.W.keepIn K (.ref C)
theorem oexB_ok {K : PySem.W.Frag} {C : Addr} (h : oexB K C = true) : OexC K C := by
  unfold oexB at h
  rw [Bool.and_eq_true, Bool.and_eq_true, Bool.and_eq_true, Bool.and_eq_true] at h
  obtain ⟨⟨⟨⟨h1, h2⟩, h3⟩, h4⟩, h5⟩ := h
  refine ⟨?_, of_decide_eq_true h2, of_decide_eq_true h3, of_decide_eq_true h4, h5⟩
  split at h1
  · rename_i dd cd sl ho
    split at h1
    · rename_i C' bm k0 k1 k2 k3 n k5 hm hs
      simp only [Bool.and_eq_true, beq_iff_eq, Bool.not_eq_true'] at h1
      obtain ⟨⟨⟨⟨rfl, rfl⟩, hdel⟩, hdict⟩, hbm⟩ := h1
      obtain ⟨nm, bs, mro, ns, qn, hd, sn, sub, ab, col, del⟩ := cd
      dsimp only at hm hdel hdict
      subst hm hdel hdict
      have hsl : sl = #[k0, k1, k2, k3, some (.builtin "ValueError.__new__"), k5] := by
        obtain ⟨l⟩ := sl
        dsimp only at hs
        rw [hs]
      subst hsl
      exact ⟨nm, qn, ns, bs, bm, sn, sub, ab, col, dd, k0, k1, k2, k3, k5, ho, hbm⟩
    · cases h1
  · cases h1
def excB (K : PySem.W.Frag) (C : Addr) : Bool := decide (PySem.W.findIn K (.ref C) "__getattribute__" = some (some (.builtin "BaseException.__getattribute__"))) && decide (PySem.W.findIn K (.ref C) "__getattr__" = some none) && decide (PySem.W.subIn K (.ref C) (.type "BaseException") = some true) && PySem.W.hasDictIn K C &&
  decide (PySem.W.findIn K (.ref C) "__class__" = some (some (.builtin "object.__class__"))) && decide (PySem.W.specialIn K (.builtin "object.__class__") "__get__" = some (some (.builtin "getset_descriptor.__get__"))) && decide (PySem.W.takesIn K (.builtin "object.__class__") = some true) && decide (PySem.W.mroIn K C (.type "object") = some true)
theorem excB_ok {K : PySem.W.Frag} {C : Addr} (h : excB K C = true) : ExcC K C ∧ XfC K C := by
  unfold excB at h
  simp only [Bool.and_eq_true, decide_eq_true_eq] at h
  obtain ⟨⟨⟨⟨⟨⟨⟨h1, h2⟩, h3⟩, h4⟩, h5⟩, h6⟩, h7⟩, h8⟩ := h
  exact ⟨⟨h1, h2, h3, h4, h5, h6, h7, h8⟩, ⟨h1, h2, h3, h4⟩⟩
/-- what the head is asked of the errors -/
inductive Fx where
  | exi (x : Str) (fs : List Str)
  | isx (x y : Str) (b : Bool)
  | isT (x : Str) (n : String) (b : Bool)
  | exm (x y : Str) (b : Bool)
def Fx.ok (K : PySem.W.Frag) : Fx → Bool
  | .exi x fs => oexB K (He.ga K x) && excB K (He.ga K x) && decide (PySem.W.findIn K (.ref (He.ga K x)) "__init__" = some (some (.ref (He.ma K (He.ga K x) "__init__")))) && decide (PySem.W.typeIn K (.ref (He.ma K (He.ga K x) "__init__")) = some (.type "function")) && fs.all fun f => decide (PySem.W.findIn K (.ref (He.ga K x)) f = some none)
  | .isx x y b => decide (PySem.W.kitOne K (.ref (He.ga K x)) (.ref (He.ga K y)) = some b)
  | .isT x n b => decide (PySem.W.kitOne K (.ref (He.ga K x)) (.type n) = some b)
  | .exm x y b => decide (PySem.W.exmOne K (.ref (He.ga K x)) (.ref (He.ga K y)) = some b)
structure ExiOk (K : PySem.W.Frag) (x : Str) (fs : List Str) : Prop where
  o : OexC K (He.ga K x)
  e : ExcC K (He.ga K x)
  f : XfC K (He.ga K x)
  i : PySem.W.findIn K (.ref (He.ga K x)) "__init__" = some (some (.ref (He.ma K (He.ga K x) "__init__")))
  t : PySem.W.typeIn K (.ref (He.ma K (He.ga K x) "__init__")) = some (.type "function")
  n : ∀ g ∈ fs, PySem.W.findIn K (.ref (He.ga K x)) g = some none
theorem exi_ok {K : PySem.W.Frag} {x : Str} {fs : List Str} (h : (Fx.exi x fs).ok K = true) : ExiOk K x fs := by
  have h' : (oexB K (He.ga K x) && excB K (He.ga K x) && decide (PySem.W.findIn K (.ref (He.ga K x)) "__init__" = some (some (.ref (He.ma K (He.ga K x) "__init__")))) && decide (PySem.W.typeIn K (.ref (He.ma K (He.ga K x) "__init__")) = some (.type "function")) && fs.all fun f => decide (PySem.W.findIn K (.ref (He.ga K x)) f = some none)) = true := h
  simp only [Bool.and_eq_true, decide_eq_true_eq, List.all_eq_true] at h'
  obtain ⟨⟨⟨⟨h1, h2⟩, h3⟩, h4⟩, h5⟩ := h'
  exact ⟨oexB_ok h1, (excB_ok h2).1, (excB_ok h2).2, h3, h4, h5⟩
theorem isx_ok {K : PySem.W.Frag} {x y : Str} {b : Bool} (h : (Fx.isx x y b).ok K = true) : PySem.W.kitOne K (.ref (He.ga K x)) (.ref (He.ga K y)) = some b := of_decide_eq_true h
theorem isT_ok {K : PySem.W.Frag} {x : Str} {n : String} {b : Bool} (h : (Fx.isT x n b).ok K = true) : PySem.W.kitOne K (.ref (He.ga K x)) (.type n) = some b := of_decide_eq_true h
theorem exm_ok' {K : PySem.W.Frag} {x y : Str} {b : Bool} (h : (Fx.exm x y b).ok K = true) : PySem.W.exmOne K (.ref (He.ga K x)) (.ref (He.ga K y)) = some b := of_decide_eq_true h
/-! ### what a call needs, without a context -/
def DefP (P : Program) (w : World) (K : PySem.W.Frag) (mg : Str → Option Value) (base : Heap) (rc : RC K) (x : Str) (k n : Nat) (sem : Fn) : Prop :=
  ∃ f fd ps ds dvs, FnOk P w K mg base (L2N.CX P w) k f fd ps (fun vs H Q E => vs.length = ps.length ∧ spU rc sem vs H Q E) ∧ mg x = some (.ref f) ∧ PySem.W.keepIn K (.ref f) = true ∧ Binds K fd ps ds ∧ Vals dvs ds ∧ dvs = [] ∧ ps.length = n
def DefNP (P : Program) (w : World) (K : PySem.W.Frag) (mg : Str → Option Value) (base : Heap) (rc : RC K) (x : Str) (k n : Nat) (sem : Fn) : Prop :=
  ∃ f fd ps, FnOk P w K mg base (L2N.CX P w) k f fd ps (fun vs H Q E => vs.length = ps.length ∧ spN rc sem vs H Q E) ∧ mg x = some (.ref f) ∧ PySem.W.keepIn K (.ref f) = true ∧ Binds K fd ps [] ∧ ps.length = n
def DefXP (P : Program) (w : World) (K : PySem.W.Frag) (mg : Str → Option Value) (base : Heap) (cm : Nat → Addr) (x : Str) (k n : Nat) (sem : Fn) : Prop :=
  ∃ f fd ps, FnX P w K mg base (L2N.CX P w) k f fd ps (fun p vs H Q E => vs.length = ps.length ∧ spX K cm sem p vs H Q E) ∧ mg x = some (.ref f) ∧ PySem.W.keepIn K (.ref f) = true ∧ Binds K fd ps [] ∧ ps.length = n
def ExcP (P : Program) (w : World) (K : PySem.W.Frag) (mg : Str → Option Value) (base : Heap) (cm : Nat → Addr) (x : Str) (c : Nat) (fns : List Str) (k : Nat) : Prop :=
  (∃ fI fd ps, OexC K (cm c) ∧ PySem.W.findIn K (.ref (cm c)) "__init__" = some (some (.ref fI)) ∧ PySem.W.typeIn K (.ref fI) = some (.type "function") ∧ FnOk P w K mg base (L2N.CX P w) k fI fd ps (initSp K (cm c) fns) ∧ Binds K fd ps []) ∧ mg x = some (.ref (cm c)) ∧ (∀ f ∈ fns, PySem.W.findIn K (.ref (cm c)) f = some none) ∧ fns ≠ [] ∧ fns.length ≤ 900
theorem ExcP.k {X : Cx} {rc : RC X.K} {x : Str} {c k : Nat} {fns : List Str} (h : ExcP X.prog X.w X.K X.mg X.base rc.cm x c fns k) : ExcK X rc x c fns k := ⟨h.1, h.2.1, h.2.2.1, h.2.2.2.1, h.2.2.2.2⟩
theorem DefNP.p {P : Program} {w : World} {K : PySem.W.Frag} {mg : Str → Option Value} {base : Heap} {rc : RC K} {x : Str} {k n : Nat} {sem : Fn} (h : DefNP P w K mg base rc x k n sem) (nf : ∀ as d os, sem as ≠ .okf d os) : DefP P w K mg base rc x k n sem := by
  obtain ⟨f, fd, ps, F1, hm, hk, hb, hn⟩ := h
  exact ⟨f, fd, ps, [], [], F1.imp (fun vs H Q E h => ⟨h.1, spN.toU nf h.2⟩), hm, hk, hb, .nil, rfl, hn⟩
theorem runN_nf {n i : Nat} {F : DS} {s : Str} (as : List Arg) (d : D) (os : List D) : runN n F s i as ≠ .okf d os := by
  intro h
  unfold runN at h
  split at h
  · split at h
    · cases h
    · split at h <;> cases h
    · cases h
  · split at h
    · split at h <;> cases h
    · cases h
  · cases h
  · cases h
end U
set_option maxRecDepth 100000
set_option maxHeartbeats 2000000
/-! PL20: the semantic functions, evaluated by simp. -/
namespace U
open PySem PySem.Spec PyProof.Rows L2
@[simp] theorem mostD_v : mostD = 16777216 := rfl
section
variable {α β : Type} {st : DSt} {i j : Nat} {a b : D} {x : XD}
@[simp] theorem v_bind_ok {a : α} {k : α → DSt → DR β} : (DR.ok a st).bind k = k a st := rfl
@[simp] theorem v_bind_exc {k : α → DSt → DR β} : (DR.exc x st : DR α).bind k = .exc x st := rfl
@[simp] theorem v_bind_stuck {k : α → DSt → DR β} : (DR.stuck : DR α).bind k = .stuck := rfl
@[simp] theorem v_toS_ok {a : α} {k : α → DSt → SX} : (DR.ok a st).toS k = k a st := rfl
@[simp] theorem v_toS_exc {k : α → DSt → SX} : (DR.exc x st : DR α).toS k = .exc x st := rfl
@[simp] theorem v_opt_some {a : α} : DR.opt (some a) st = .ok a st := rfl
@[simp] theorem v_dC : dC a st = .ok a st := rfl
@[simp] theorem v_dVar : dVar i st = (match st[i]? with
  | some (.pure d) => .ok d st
  | some (.fr d) => .ok d st
  | some (.cell d) => .ok d (st.set i (.pure d))
  | _ => .stuck) := rfl
@[simp] theorem v_dOp {g : D → D → Option D} {fa fb : DE} : dOp g fa fb st = (fa st).bind fun d st1 => (fb st1).bind fun e st2 => .opt (g d e) st2 := rfl
@[simp] theorem v_see : Slot.see (.pure a) = some a := rfl
@[simp] theorem v_see2 : Slot.see (.cell a) = some a := rfl
@[simp] theorem v_see3 : Slot.see (.io i a) = some a := rfl
@[simp] theorem v_see4 : Slot.see (.fr a) = some a := rfl
@[simp] theorem v_dSee : dSee i st = (match (st[i]?).bind Slot.see with
  | some d => .ok d st
  | none => .stuck) := rfl
@[simp] theorem v_bdVal {f : DE} : bdVal f st = (f st).bind fun d st' => match d with
  | .bl b => .ok b st'
  | _ => .stuck := rfl
@[simp] theorem v_dChain {g g' : D → D → Option D} {fa fb fc : DE} : dChain g g' fa fb fc st = (fa st).bind fun d st1 => (fb st1).bind fun e st2 => match g d e with
  | some (.bl true) => (fc st2).bind fun x st3 => .opt (g' e x) st3
  | some (.bl false) => .ok (.bl false) st2
  | _ => .stuck := rfl
@[simp] theorem v_bdAnd {f g : DT} : bdAnd f g st = (f st).bind fun b st' => match b with
  | true => g st'
  | false => .ok false st' := rfl
@[simp] theorem v_bdOr {f g : DT} : bdOr f g st = (f st).bind fun b st' => match b with
  | true => .ok true st'
  | false => g st' := rfl
@[simp] theorem v_bdNot {f : DT} : bdNot f st = (f st).bind fun b st' => .ok (!b) st' := rfl
@[simp] theorem v_dAnd {fa fb : DE} : dAnd fa fb st = (fa st).bind fun d st' => match d with
  | .bl true => fb st'
  | .bl false => .ok (.bl false) st'
  | _ => .stuck := rfl
@[simp] theorem v_dOr {fa fb : DE} : dOr fa fb st = (fa st).bind fun d st' => match d with
  | .bl true => .ok (.bl true) st'
  | .bl false => fb st'
  | _ => .stuck := rfl
@[simp] theorem v_dNot {fa : DE} : dNot fa st = (fa st).bind fun d st' => match d with
  | .bl b => .ok (.bl (!b)) st'
  | _ => .stuck := rfl
@[simp] theorem v_dIf {f : DT} {fa fb : DE} : dIf f fa fb st = (f st).bind fun b st' => match b with
  | true => fa st'
  | false => fb st' := rfl
@[simp] theorem v_dNeg {fa : DE} : dNeg fa st = (fa st).bind fun d st' => match d with
  | .int i => .ok (.int (-i)) st'
  | _ => .stuck := rfl
@[simp] theorem v_lNil : lNil st = .ok [] st := rfl
@[simp] theorem v_lCons {fa : DE} {fl : DA} : lCons fa fl st = (fa st).bind fun d st1 => (fl st1).bind fun ds st2 => .ok (d :: ds) st2 := rfl
@[simp] theorem v_dTup {fl : DA} : dTup fl st = (fl st).bind fun ds st' => if ds.length ≤ mostD then .ok (.tup ds) st' else .stuck := rfl
@[simp] theorem v_dLst {fl : DA} : dLst fl st = (fl st).bind fun ds st' => if ds.length ≤ mostD then .ok (.lst ds) st' else .stuck := rfl
@[simp] theorem v_dIxv {fb : DE} : dIxv i fb st = (match (st[i]?).bind Slot.see with
  | some _ => (fb st).bind fun e st' => match (st'[i]?).bind Slot.see with
    | some d => .opt (ixD d e) st'
    | none => .stuck
  | none => .stuck) := rfl
@[simp] theorem v_dCall {g : List D → Option D} {fl : DA} : dCall g fl st = (fl st).bind fun ds st' => .opt (g ds) st' := rfl
@[simp] theorem v_dCall1 {g : D → Option D} {fa : DE} : dCall1 g fa st = (fa st).bind fun d st' => .opt (g d) st' := rfl
@[simp] theorem v_oNone : oNone st = .ok none st := rfl
@[simp] theorem v_oSome {fa : DE} : oSome fa st = (fa st).bind fun d st' => match d with
  | .int i => .ok (some i) st'
  | _ => .stuck := rfl
@[simp] theorem v_dSl {fa : DE} {lo hi : DO} {g : D → Option Int → Option Int → Option D} : dSl fa lo hi g st = (fa st).bind fun d st1 => (lo st1).bind fun l st2 => (hi st2).bind fun h st3 => .opt (g d l h) st3 := rfl
@[simp] theorem v_sNil : sNil st = .nx st := rfl
@[simp] theorem v_sSeq {F F' : DS} : sSeq F F' st = (match F st with
  | .nx st' => F' st'
  | r => r) := rfl
@[simp] theorem v_sBk : sBk st = .bk st := rfl
@[simp] theorem v_sDrop {fa : DE} : sDrop fa st = (fa st).toS fun _ st' => .nx st' := rfl
@[simp] theorem v_sSet {fa : DE} : sSet i fa st = (fa st).toS fun d st' => .nx (st'.set i (.pure d)) := rfl
@[simp] theorem v_sSetF {fa : DE} : sSetF i fa st = (fa st).toS fun d st' => .nx (st'.set i (.cell d)) := rfl
@[simp] theorem v_sIf {f : DT} {F F' : DS} : sIf f F F' st = (f st).toS fun b st' => match b with
  | true => F st'
  | false => F' st' := rfl
@[simp] theorem v_sRet {fa : DE} : sRet fa st = (fa st).toS fun d st' => .rt d st' := rfl
@[simp] theorem v_sRetF {fa : DE} : sRetF fa st = (fa st).toS fun d st' => .rf d st' := rfl
@[simp] theorem v_sRetV : sRetV i st = (match st[i]? with
  | some (.pure d) => .rt d st
  | some (.fr d) => .rt d st
  | some (.cell d) => .rf d st
  | _ => .stuck) := rfl
@[simp] theorem v_put1 : Slot.put (.cell a) b = .cell b := rfl
@[simp] theorem v_put2 : Slot.put (.io i a) b = .io i b := rfl
@[simp] theorem v_got1 : Slot.got (.cell a) = some a := rfl
@[simp] theorem v_got2 : Slot.got (.io i a) = some a := rfl
@[simp] theorem v_onSlot {g : D → Option D} : onSlot i g st = (st[i]?).bind fun s => s.got.bind fun d => (g d).map fun d' => st.set i (s.put d') := rfl
@[simp] theorem v_optS1 : optS (some st) = .nx st := rfl
@[simp] theorem v_sPut {fa fb : DE} : sPut i fa fb st = (fa st).toS fun x st1 => match (st1[i]?).bind Slot.see with
  | some _ => (fb st1).toS fun j st2 => optS (onSlot i (fun d => putD d j x) st2)
  | none => .stuck := rfl
@[simp] theorem v_dApp {fa : DE} : dApp i fa st = (match (st[i]?).bind Slot.see with
  | some (.lst _) => (fa st).bind fun x st1 => match onSlot i (fun d => appD d x) st1 with
    | some st2 => .ok .non st2
    | none => .stuck
  | _ => .stuck) := rfl
@[simp] theorem v_gN : gN i a st = some (st.set i (.pure a)) := rfl
@[simp] theorem v_gsNil : gsNil [] st = some st := rfl
@[simp] theorem v_gsCons {t : TgD} {u : List D → DSt → Option DSt} {ds : List D} : gsCons t u (a :: ds) st = (t a st).bind (u ds) := rfl
@[simp] theorem v_gT {u : List D → DSt → Option DSt} {n : Nat} {ds : List D} : gT u n (.tup ds) st = (if ds.length = n then u ds st else none) := rfl
@[simp] theorem v_iSq {fa : DE} : iSq fa st = (fa st).bind fun d st' => match d with
  | .lst ds => .ok ds st'
  | .scr ds => .ok ds st'
  | .tup ds => .ok ds st'
  | _ => .stuck := rfl
@[simp] theorem v_iL {fa : DE} : iL fa st = (fa st).bind fun d st' => match d with
  | .lst ds => .ok ds st'
  | .scr ds => .ok ds st'
  | _ => .stuck := rfl
@[simp] theorem v_iEn {fa : DE} : iEn fa st = (fa st).bind fun d st' => match d with
  | .tup ds => .ok (enumD ds) st'
  | _ => .stuck := rfl
@[simp] theorem v_iR1 {fl : DA} : iR1 fl st = (fl st).bind fun ds st' => match ds with
  | [.int j] => if okR j = true then .ok (rangeD 0 j) st' else .stuck
  | _ => .stuck := rfl
@[simp] theorem v_iR2 {fl : DA} : iR2 fl st = (fl st).bind fun ds st' => match ds with
  | [.int i, .int j] => if okR i = true ∧ okR j = true then .ok (rangeD i j) st' else .stuck
  | _ => .stuck := rfl
@[simp] theorem v_iR3 {fl : DA} : iR3 fl st = (fl st).bind fun ds st' => match ds with
  | [.int i, .int j, .int k] => if k = -1 ∧ okR i = true ∧ okR j = true then .ok (downD i j) st' else .stuck
  | _ => .stuck := rfl
@[simp] theorem v_sFor {fi : DA} {t : TgD} {F : DS} : sFor fi t F st = (fi st).toS fun items st' => sFor' t F items st' := rfl
@[simp] theorem v_for_nil {t : TgD} {F : DS} : sFor' t F [] st = .nx st := rfl
theorem v_for_cons {t : TgD} {F : DS} {d : D} {ds : List D} : sFor' t F (d :: ds) st = (match t d st with
    | none => .stuck
    | some st1 => match F st1 with
      | .nx st2 => sFor' t F ds st2
      | .ct st2 => sFor' t F ds st2
      | .bk st2 => .nx st2
      | r => r) := rfl
@[simp] theorem v_lenIs {n : Nat} {fl : DAs} : lenIs n fl st = (fl st).bind fun ls st1 => if ls.length = n then .ok ls st1 else .stuck := rfl
@[simp] theorem v_aNil : aNil st = .ok [] st := rfl
@[simp] theorem v_aV {fa : DE} {fl : DAs} : aV fa fl st = (fa st).bind fun d st1 => (fl st1).bind fun ls st2 => .ok (.v d :: ls) st2 := rfl
@[simp] theorem v_aS {fl : DAs} : aS i fl st = (match (st[i]?).bind Slot.see with
  | some _ => (fl st).bind fun ls st2 => .ok (.s i :: ls) st2
  | none => .stuck) := rfl
@[simp] theorem v_mk0 : mkArgs [] st = some ([], []) := rfl
@[simp] theorem v_mk1 {ls : List LV} : mkArgs (.v a :: ls) st = (mkArgs ls st).map fun q => (.p a :: q.1, q.2) := rfl
@[simp] theorem v_mk2 {ls : List LV} : mkArgs (.s i :: ls) st = (match st[i]? with
    | some (.pure d) => (mkArgs ls st).map fun q => (.p d :: q.1, q.2)
    | some (.fr d) => (mkArgs ls st).map fun q => (.p d :: q.1, q.2)
    | some (.cell d) => (mkArgs ls st).bind fun q => if i ∈ q.2 then none else some (.c d :: q.1, i :: q.2)
    | some (.io _ d) => (mkArgs ls st).bind fun q => if i ∈ q.2 then none else some (.c d :: q.1, i :: q.2)
    | _ => none) := rfl
@[simp] theorem v_un0 : unAll [] st = st := rfl
@[simp] theorem v_un1 {is : List Nat} : unAll (i :: is) st = (unAll is st).set i .un := rfl
@[simp] theorem v_wb0 {st0 : DSt} : wback st0 [] [] st = some st := rfl
@[simp] theorem v_wb1 {st0 : DSt} {is : List Nat} {ds : List D} : wback st0 (i :: is) (a :: ds) st = (st0[i]?).bind fun s => (wback st0 is ds st).map fun st' => st'.set i (s.put a) := rfl
@[simp] theorem v_dCallU {sem : Fn} {fl : DAs} : dCallU sem fl st = (fl st).bind fun ls st1 => match mkArgs ls st1 with
  | some (as, is) => (match sem as with
    | .ok d outs => (match wback st1 is outs (unAll is st1) with
      | some st2 => .ok d st2
      | none => .stuck)
    | .exc x => .exc x (unAll is st1)
    | _ => .stuck)
  | none => .stuck := rfl
@[simp] theorem v_dCallF {sem : Fn} {fl : DAs} : dCallF sem fl st = (fl st).bind fun ls st1 => match mkArgs ls st1 with
  | some (as, is) => (match sem as with
    | .okf d outs => (match wback st1 is outs (unAll is st1) with
      | some st2 => .ok d st2
      | none => .stuck)
    | .exc x => .exc x (unAll is st1)
    | _ => .stuck)
  | none => .stuck := rfl
@[simp] theorem v_dCallX {sem : Fn} {n : Nat} {fl : DA} : dCallX sem n fl st = (fl st).bind fun ds st1 => if ds.length = n then (match sem (ds.map .p) with
  | .ok d _ => .ok d st1
  | _ => .stuck) else .stuck := rfl
@[simp] theorem v_sRaise {c : Nat} {fns : List Str} {fl : DA} : sRaise c fns fl st = (fl st).toS fun ds st' => if ds.length = fns.length then .exc ⟨c, (fns.zip ds).reverse⟩ st' else .stuck := rfl
@[simp] theorem v_dLc {fi : DA} {vs : List Nat} {t : TgD} {ft : DT} {fe : DE} : dLc fi vs t ft fe st = (fi st).bind fun items st1 => (lcGo vs t ft fe items [] (unAll vs st1)).bind fun ds st2 => .ok (.lst ds) st2 := rfl
@[simp] theorem v_bdYes : bdYes st = .ok true st := rfl
@[simp] theorem v_lc0 {vs : List Nat} {t : TgD} {ft : DT} {fe : DE} {acc : List D} : lcGo vs t ft fe [] acc st = .ok acc st := rfl
theorem v_lc1 {vs : List Nat} {t : TgD} {ft : DT} {fe : DE} {acc ds : List D} {d : D} : lcGo vs t ft fe (d :: ds) acc st = (match t d st with
    | none => .stuck
    | some st1 => match ft st1 with
      | .ok true st2 => (match fe st2 with
        | .ok d st3 => if acc.length < mostD then lcGo vs t ft fe ds (acc ++ [d]) (unAll vs st3) else .stuck
        | _ => .stuck)
      | .ok false st2 => lcGo vs t ft fe ds acc (unAll vs st2)
      | _ => .stuck) := rfl
@[simp] theorem v_in0 {k : Nat} : initA k [] = [] := rfl
@[simp] theorem v_in1 {k : Nat} {as : List Arg} : initA k (.p a :: as) = .pure a :: initA k as := rfl
@[simp] theorem v_in2 {k : Nat} {as : List Arg} : initA k (.c a :: as) = .io k a :: initA (k + 1) as := rfl
@[simp] theorem v_nc0 : nCells [] = 0 := rfl
@[simp] theorem v_nc1 {as : List Arg} : nCells (.p a :: as) = nCells as := rfl
@[simp] theorem v_nc2 {as : List Arg} : nCells (.c a :: as) = nCells as + 1 := rfl
@[simp] theorem v_outs0 {k : Nat} : outsN k 0 st = some [] := rfl
theorem v_runF {n : Nat} {F : DS} {as : List Arg} : runF n F as = (match F (initA 0 as ++ List.replicate (n - as.length) .un) with
  | .nx st => (match outsN 0 (nCells as) st with
    | some os => .ok .non os
    | none => .stuck)
  | .rt d st => (match outsN 0 (nCells as) st with
    | some os => .ok d os
    | none => .stuck)
  | .rf d st => (match outsN 0 (nCells as) st with
    | some os => .okf d os
    | none => .stuck)
  | .exc x _ => .exc x
  | _ => .stuck) := rfl
end
section
variable {a b : Int}
@[simp] theorem v_add : addD (.int a) (.int b) = some (.int (a + b)) := rfl
@[simp] theorem v_addT {x y : List D} : addD (.tup x) (.tup y) = if x.length + y.length ≤ mostD then some (.tup (x ++ y)) else none := by
  show ((none : Option D).or ((if x.length + y.length ≤ mostD then some (D.tup (x ++ y)) else none).or none)) = _
  split <;> rfl
@[simp] theorem v_addL {x y : List D} : addD (.lst x) (.lst y) = if x.length + y.length ≤ mostD then some (.lst (x ++ y)) else none := rfl
@[simp] theorem v_sub : subD (.int a) (.int b) = some (.int (a - b)) := rfl
@[simp] theorem v_mul : mulD (.int a) (.int b) = if (decide (a.natAbs.log2 + b.natAbs.log2 < 1000000)) = true then some (.int (a * b)) else none := rfl
@[simp] theorem v_mod : modD (.int a) (.int b) = if decide (0 < b) = true then some (.int (a % b)) else none := rfl
@[simp] theorem v_fdiv : fdivD (.int a) (.int b) = if (decide (0 < b) && decide (b.natAbs.log2 < 9000)) = true then some (.int (a / b)) else none := rfl
@[simp] theorem v_pow : powD (.int a) (.int b) = if (decide (0 ≤ b) && decide (b ≤ 1000000) && decide (a.natAbs < 2 ^ 64)) = true then some (.int (a ^ b.toNat)) else none := rfl
@[simp] theorem v_lt : ltD (.int a) (.int b) = some (.bl (decide (a < b))) := rfl
@[simp] theorem v_le : leD (.int a) (.int b) = some (.bl (decide (a ≤ b))) := rfl
@[simp] theorem v_gt : gtD (.int a) (.int b) = some (.bl (decide (b < a))) := rfl
@[simp] theorem v_ge : geD (.int a) (.int b) = some (.bl (decide (b ≤ a))) := rfl
@[simp] theorem v_len1 {ds : List D} : lenD (.lst ds) = some (.int ds.length) := rfl
@[simp] theorem v_len2 {ds : List D} : lenD (.tup ds) = some (.int ds.length) := rfl
@[simp] theorem v_tup1 {ds : List D} : tupD (.lst ds) = some (.tup ds) := rfl
@[simp] theorem v_lst1 {ds : List D} : lstD (.lst ds) = some (.lst ds) := rfl
@[simp] theorem v_lst2 {ds : List D} : lstD (.tup ds) = some (.lst ds) := rfl
@[simp] theorem v_int1 : intD (.int a) = some (.int a) := rfl
@[simp] theorem v_int2 {b : Bool} : intD (.bl b) = some (.int (if b then 1 else 0)) := rfl
@[simp] theorem v_min : minD [.int a, .int b] = some (.int (if b < a then b else a)) := rfl
@[simp] theorem v_comb : combD [.int a, .int b] = if 0 ≤ a ∧ 0 ≤ b ∧ a.natAbs ≤ 18000 then some (.int (PySem.W.mcComb a b)) else none := rfl
@[simp] theorem v_ix1 {ds : List D} : ixD (.tup ds) (.int a) = atI ds a := rfl
@[simp] theorem v_ix2 {ds : List D} : ixD (.lst ds) (.int a) = atI ds a := rfl
@[simp] theorem v_put {ds : List D} {x : D} : putD (.lst ds) (.int a) x = (ixN ds.length a).map fun j => .lst (ds.set j x) := rfl
@[simp] theorem v_app {ds : List D} {x : D} : appD (.lst ds) x = if ds.length < mostD then some (.lst (ds ++ [x])) else none := rfl
@[simp] theorem v_sl1 {ds : List D} {l h : Option Int} : slLD (.lst ds) l h = some (.lst (cutD ds l h)) := rfl
@[simp] theorem v_sl2 {ds : List D} {l h : Option Int} : slLD (.scr ds) l h = some (.lst (cutD ds l h)) := rfl
theorem v_sum1 (l : List Int) : sumD (.lst (l.map .int)) = some (.int l.sum) := by show (intsOf (l.map .int)).map (fun l => D.int l.sum) = _; rw [intsOf_map]; rfl
theorem v_sum2 (l : List Int) : sumD (.tup (l.map .int)) = some (.int l.sum) := by show (intsOf (l.map .int)).map (fun l => D.int l.sum) = _; rw [intsOf_map]; rfl
theorem v_all (l : List Bool) : allD (.lst (l.map .bl)) = some (.bl (l.all id)) := by show (blsOf (l.map .bl)).map (fun l => D.bl (l.all id)) = _; rw [blsOf_map]; rfl
@[simp] theorem v_eqI : eqD (.int a) (.int b) = some (.bl (decide (a = b))) := by
  show some (D.bl (PyData.eqv (.int a) (.int b))) = _
  simp only [PyData.eqv]
  by_cases h : a = b
  · subst h; simp
  · simp [h]
@[simp] theorem v_neI : neD (.int a) (.int b) = some (.bl (!decide (a = b))) := by
  show some (D.bl (!PyData.eqv (.int a) (.int b))) = _
  simp only [PyData.eqv]
  by_cases h : a = b
  · subst h; simp
  · simp [h]
end
end U
set_option maxRecDepth 100000
set_option maxHeartbeats 2000000
/-! PL21: comprehensions and loops over lists that are told. -/
namespace U
open PySem PySem.Spec PyProof.Rows L2
section
variable {α β : Type} {vs vs1 : List Nat} {t t1 : TgD} {ft ft1 : DT} {fe : DE} {fi1 : DA} {st0 : DSt}
theorem lc_filter (enc g : α → D) (p : α → Bool) : ∀ (ms : List α) (acc : List D), (∀ x ∈ ms, ∃ st1 st2, t (enc x) st0 = some st1 ∧ ft st1 = .ok (p x) st2 ∧ (p x = true → ∃ st3, fe st2 = .ok (g x) st3 ∧ unAll vs st3 = st0) ∧ (p x = false → unAll vs st2 = st0)) → acc.length + ms.length ≤ mostD →
    lcGo vs t ft fe (ms.map enc) acc st0 = .ok (acc ++ (ms.filter p).map g) st0
  | [], acc, _, _ => by simp
  | x :: ms, acc, h, hl => by
    obtain ⟨st1, st2, h1, h2, h3, h4⟩ := h x List.mem_cons_self
    have hm : acc.length < mostD := by rw [List.length_cons] at hl; omega
    rw [List.map_cons, v_lc1, h1]
    dsimp only
    rw [h2]
    cases q : p x with
    | true =>
      obtain ⟨st3, k1, k2⟩ := h3 q
      dsimp only
      rw [k1]
      dsimp only
      rw [if_pos hm, k2, lc_filter enc g p ms _ (fun y hy => h y (List.mem_cons_of_mem _ hy)) (by rw [List.length_append, List.length_singleton]; rw [List.length_cons] at hl; omega)]
      rw [List.filter_cons_of_pos q]
      simp
    | false =>
      dsimp only
      rw [h4 q, lc_filter enc g p ms _ (fun y hy => h y (List.mem_cons_of_mem _ hy)) (by rw [List.length_cons] at hl; omega), List.filter_cons_of_neg (by rw [q]; exact Bool.false_ne_true)]
theorem lc_map (enc g : α → D) : ∀ (ms : List α) (acc : List D), (∀ x ∈ ms, ∃ st1 st3, t (enc x) st0 = some st1 ∧ ft st1 = .ok true st1 ∧ fe st1 = .ok (g x) st3 ∧ unAll vs st3 = st0) → acc.length + ms.length ≤ mostD →
    lcGo vs t ft fe (ms.map enc) acc st0 = .ok (acc ++ ms.map g) st0 := fun ms acc h hl => by
  rw [lc_filter enc g (fun _ => true) ms acc (fun x hx => ?_) hl, List.filter_eq_self.mpr (fun _ _ => rfl)]
  obtain ⟨st1, st3, h1, h2, h3, h4⟩ := h x hx
  exact ⟨st1, st1, h1, h2, fun _ => ⟨st3, h3, h4⟩, fun z => by cases z⟩
theorem lc2_map (enc : α → D) (items l : α → List D) : ∀ (ms : List α) (acc : List D), (∀ x ∈ ms, ∃ st1 st2 st3, t (enc x) st0 = some st1 ∧ ft st1 = .ok true st1 ∧ fi1 st1 = .ok (items x) st2 ∧ (∀ acc : List D, acc.length + (l x).length ≤ mostD → lcGo vs1 t1 ft1 fe (items x) acc (unAll vs1 st2) = .ok (acc ++ l x) st3) ∧ unAll vs st3 = st0) →
    acc.length + (ms.flatMap l).length ≤ mostD → lcGo2 vs t ft fi1 vs1 t1 ft1 fe (ms.map enc) acc st0 = .ok (acc ++ ms.flatMap l) st0
  | [], acc, _, _ => by simp [lcGo2]
  | x :: ms, acc, h, hl => by
    obtain ⟨st1, st2, st3, h1, h2, h3, h4, h5⟩ := h x List.mem_cons_self
    rw [List.flatMap_cons, List.length_append] at hl
    rw [List.map_cons]
    unfold lcGo2
    rw [h1]
    dsimp only
    rw [h2]
    dsimp only
    rw [h3]
    dsimp only
    rw [h4 acc (by omega)]
    dsimp only
    rw [h5, lc2_map enc items l ms _ (fun y hy => h y (List.mem_cons_of_mem _ hy)) (by rw [List.length_append]; omega), List.flatMap_cons, List.append_assoc]
theorem for_fold {F : DS} (enc : α → D) (Inv : β → DSt → Prop) (f : β → α → β) : ∀ (ms : List α) (b : β) (st : DSt), (∀ b st, ∀ x ∈ ms, Inv b st → ∃ st1 st2, t (enc x) st = some st1 ∧ F st1 = .nx st2 ∧ Inv (f b x) st2) → Inv b st →
    ∃ st', sFor' t F (ms.map enc) st = .nx st' ∧ Inv (ms.foldl f b) st'
  | [], b, st, _, hi => ⟨st, rfl, hi⟩
  | x :: ms, b, st, h, hi => by
    obtain ⟨st1, st2, h1, h2, h3⟩ := h b st x List.mem_cons_self hi
    obtain ⟨st', k1, k2⟩ := for_fold enc Inv f ms (f b x) st2 (fun b st y hy => h b st y (List.mem_cons_of_mem _ hy)) h3
    refine ⟨st', ?_, k2⟩
    rw [List.map_cons, v_for_cons, h1]
    dsimp only
    rw [h2]
    exact k1
/-- from one turn's wish to the next, ended early or not -/
theorem for_inv {F : DS} (enc : α → D) (Inv : Nat → DSt → Prop) (Dn : SX → Prop) : ∀ (ms : List α) (i : Nat) (st : DSt), (∀ (j : Nat) st x, ms[j]? = some x → Inv (i + j) st → ∃ st1, t (enc x) st = some st1 ∧ ((∃ st2, F st1 = .nx st2 ∧ Inv (i + j + 1) st2) ∨ (∃ st2, F st1 = .bk st2 ∧ Dn (.nx st2)))) → (∀ st, Inv (i + ms.length) st → Dn (.nx st)) → Inv i st →
    Dn (sFor' t F (ms.map enc) st)
  | [], i, st, _, hd, hi => hd st hi
  | x :: ms, i, st, h, hd, hi => by
    obtain ⟨st1, h1, h2⟩ := h 0 st x rfl hi
    rw [List.map_cons, v_for_cons, h1]
    dsimp only
    rcases h2 with ⟨st2, h2, h3⟩ | ⟨st2, h2, h3⟩
    · rw [h2]
      dsimp only
      refine for_inv enc Inv Dn ms (i + 1) st2 (fun j st y hy hi => ?_) (fun st hi => hd st (by rw [List.length_cons, Nat.add_comm ms.length 1, ← Nat.add_assoc]; exact hi)) h3
      have := h (j + 1) st y (by simpa using hy) (by rw [show i + (j + 1) = i + 1 + j by omega]; exact hi)
      rw [show i + (j + 1) + 1 = i + 1 + j + 1 by omega] at this
      exact this
    · rw [h2]
      exact h3
end
theorem seq_nx {F F' : DS} {st st' : DSt} (h : F st = .nx st') : sSeq F F' st = F' st' := by rw [v_sSeq, h]
theorem range0 (n : Nat) : rangeD 0 (n : Int) = (List.range n).map fun i => D.int (i : Nat) := by
  unfold rangeD
  simp
theorem okR_int {n : Int} (h1 : -(2 ^ 62) < n) (h : n < 2 ^ 62) : okR n = true := by
  unfold okR
  rw [Nat.blt_eq]
  omega
theorem okR_nat {n : Nat} (h : n < 2 ^ 62) : okR (n : Int) = true := okR_int (by omega) (by omega)
theorem atI_nat {α : Type} {xs : List α} {i : Nat} {x : α} (h : xs[i]? = some x) : atI xs (i : Int) = some x := by
  have hl : i < xs.length := (List.getElem?_eq_some_iff.mp h).1
  unfold atI ixN
  rw [if_pos (Int.natCast_nonneg i), if_pos (by omega)]
  simpa using h
end U
set_option maxRecDepth 100000
set_option maxHeartbeats 0
/-! The defs of the law's text over plain data, and their walks. Printed by wip/gen.py. -/
namespace Q
open PySem PySem.Spec PyProof.Rows L2 L2H U
def top (i : Nat) : Stmt := PySem.Challenge.pw_unmovedforms_k93_monomials_in_order.main.body.getD i (.Pass ⟨0, 0, 0, 0⟩)
def inBody (st : Stmt) (i : Nat) : Stmt := match st with
  | .ClassDef _ _ _ b _ _ _ _ _ _ _ => b.getD i (.Pass ⟨0, 0, 0, 0⟩)
  | _ => .Pass ⟨0, 0, 0, 0⟩
structure Glo (K : PySem.W.Frag) (mg : Str → Option Value) : Prop where
  n_ValueError : mg "ValueError" = none
  n_all : mg "all" = none
  n_bool : mg "bool" = none
  n_enumerate : mg "enumerate" = none
  n_int : mg "int" = none
  n_isinstance : mg "isinstance" = none
  n_len : mg "len" = none
  n_list : mg "list" = none
  n_min : mg "min" = none
  n_range : mg "range" = none
  n_sum : mg "sum" = none
  n_tuple : mg "tuple" = none
  c_MOST_LETTERS : ∃ t, mg "MOST_LETTERS" = some (.int 12 t)
  c_MOST_DEGREE : ∃ t, mg "MOST_DEGREE" = some (.int 32 t)
  c_MOST_MONOMIALS : ∃ t, mg "MOST_MONOMIALS" = some (.int 1000 t)
  m_comb : mg "comb" = some (.builtin "math.comb")
  k_FormsError : mg "FormsError" = some (.ref (He.ga K "FormsError"))
  k_BadCount : mg "BadCount" = some (.ref (He.ga K "BadCount"))
  k_BadSizes : mg "BadSizes" = some (.ref (He.ga K "BadSizes"))
  k_BadExponent : mg "BadExponent" = some (.ref (He.ga K "BadExponent"))
  k_TooLarge : mg "TooLarge" = some (.ref (He.ga K "TooLarge"))
  d_monomials : mg "monomials" = some (.ref (He.ga K "monomials"))
  d_monomial_count : mg "monomial_count" = some (.ref (He.ga K "monomial_count"))
  d_monomial_place : mg "monomial_place" = some (.ref (He.ga K "monomial_place"))
  d_check_letters : mg "check_letters" = some (.ref (He.ga K "check_letters"))
  d_check_exponents : mg "check_exponents" = some (.ref (He.ga K "check_exponents"))
  d__law_pool : mg "_law_pool" = some (.ref (He.ga K "_law_pool"))
  d__law_draw : mg "_law_draw" = some (.ref (He.ga K "_law_draw"))
  d__law_int : mg "_law_int" = some (.ref (He.ga K "_law_int"))
  d__law_held : mg "_law_held" = some (.ref (He.ga K "_law_held"))
  d__law_error : mg "_law_error" = some (.ref (He.ga K "_law_error"))
  d__law_ask : mg "_law_ask" = some (.ref (He.ga K "_law_ask"))
  d__law_ways : mg "_law_ways" = some (.ref (He.ga K "_law_ways"))
  d__law_before : mg "_law_before" = some (.ref (He.ga K "_law_before"))
  d__law_exps : mg "_law_exps" = some (.ref (He.ga K "_law_exps"))
  d__law_listed : mg "_law_listed" = some (.ref (He.ga K "_law_listed"))
  d__law_placed : mg "_law_placed" = some (.ref (He.ga K "_law_placed"))
  d__law_bent : mg "_law_bent" = some (.ref (He.ga K "_law_bent"))
  d_law : mg "law" = some (.ref (He.ga K "law"))
def cm (K : PySem.W.Frag) : Nat → Addr := fun c => match c with
  | 0 => He.ga K "BadCount"
  | 1 => He.ga K "BadSizes"
  | 2 => He.ga K "BadExponent"
  | _ => He.ga K "TooLarge"
def an_BadCount : Nat → Option Bool := fun c => match c with
  | 0 => some true
  | 1 => some false
  | 2 => some false
  | 3 => some false
  | _ => none
def an_BadSizes : Nat → Option Bool := fun c => match c with
  | 0 => some false
  | 1 => some true
  | 2 => some false
  | 3 => some false
  | _ => none
def an_BadExponent : Nat → Option Bool := fun c => match c with
  | 0 => some false
  | 1 => some false
  | 2 => some true
  | 3 => some false
  | _ => none
def an_TooLarge : Nat → Option Bool := fun c => match c with
  | 0 => some false
  | 1 => some false
  | 2 => some false
  | 3 => some true
  | _ => none
def an_ValueError : Nat → Option Bool := fun c => match c with
  | 0 => some true
  | 1 => some true
  | 2 => some true
  | 3 => some true
  | _ => none
def is_FormsError : Nat → Option Bool := fun c => match c with
  | 0 => some true
  | 1 => some true
  | 2 => some true
  | 3 => some true
  | _ => none
def ty_bool : List (String × Bool) := [("NoneType", false), ("bool", true), ("int", false), ("str", false), ("tuple", false), ("list", false)]
theorem tk_bool : TabOk "bool" ty_bool := tab_cons (by decide +kernel) (tab_cons (by decide +kernel) (tab_cons (by decide +kernel) (tab_cons (by decide +kernel) (tab_cons (by decide +kernel) (tab_cons (by decide +kernel) (tab_nil))))))
def ty_int : List (String × Bool) := [("NoneType", false), ("bool", true), ("int", true), ("str", false), ("tuple", false), ("list", false)]
theorem tk_int : TabOk "int" ty_int := tab_cons (by decide +kernel) (tab_cons (by decide +kernel) (tab_cons (by decide +kernel) (tab_cons (by decide +kernel) (tab_cons (by decide +kernel) (tab_cons (by decide +kernel) (tab_nil))))))
def ty_list : List (String × Bool) := [("NoneType", false), ("bool", false), ("int", false), ("str", false), ("tuple", false), ("list", true)]
theorem tk_list : TabOk "list" ty_list := tab_cons (by decide +kernel) (tab_cons (by decide +kernel) (tab_cons (by decide +kernel) (tab_cons (by decide +kernel) (tab_cons (by decide +kernel) (tab_cons (by decide +kernel) (tab_nil))))))
def ty_tuple : List (String × Bool) := [("NoneType", false), ("bool", false), ("int", false), ("str", false), ("tuple", true), ("list", false)]
theorem tk_tuple : TabOk "tuple" ty_tuple := tab_cons (by decide +kernel) (tab_cons (by decide +kernel) (tab_cons (by decide +kernel) (tab_cons (by decide +kernel) (tab_cons (by decide +kernel) (tab_cons (by decide +kernel) (tab_nil))))))
section
variable {P : Program} {w : World} {K : PySem.W.Frag} {mg : Str → Option Value} {base : Heap}
structure Fe (K : PySem.W.Frag) : Prop where
  e_BadCount : ExiOk K "BadCount" ["count"]
  e_BadSizes : ExiOk K "BadSizes" ["given", "wanted"]
  e_BadExponent : ExiOk K "BadExponent" ["exponent"]
  e_TooLarge : ExiOk K "TooLarge" ["size"]
  i_BadCount_BadCount : PySem.W.kitOne K (.ref (He.ga K "BadCount")) (.ref (He.ga K "BadCount")) = some true
  i_BadCount_BadSizes : PySem.W.kitOne K (.ref (He.ga K "BadCount")) (.ref (He.ga K "BadSizes")) = some false
  i_BadCount_BadExponent : PySem.W.kitOne K (.ref (He.ga K "BadCount")) (.ref (He.ga K "BadExponent")) = some false
  i_BadCount_TooLarge : PySem.W.kitOne K (.ref (He.ga K "BadCount")) (.ref (He.ga K "TooLarge")) = some false
  i_BadSizes_BadCount : PySem.W.kitOne K (.ref (He.ga K "BadSizes")) (.ref (He.ga K "BadCount")) = some false
  i_BadSizes_BadSizes : PySem.W.kitOne K (.ref (He.ga K "BadSizes")) (.ref (He.ga K "BadSizes")) = some true
  i_BadSizes_BadExponent : PySem.W.kitOne K (.ref (He.ga K "BadSizes")) (.ref (He.ga K "BadExponent")) = some false
  i_BadSizes_TooLarge : PySem.W.kitOne K (.ref (He.ga K "BadSizes")) (.ref (He.ga K "TooLarge")) = some false
  i_BadExponent_BadCount : PySem.W.kitOne K (.ref (He.ga K "BadExponent")) (.ref (He.ga K "BadCount")) = some false
  i_BadExponent_BadSizes : PySem.W.kitOne K (.ref (He.ga K "BadExponent")) (.ref (He.ga K "BadSizes")) = some false
  i_BadExponent_BadExponent : PySem.W.kitOne K (.ref (He.ga K "BadExponent")) (.ref (He.ga K "BadExponent")) = some true
  i_BadExponent_TooLarge : PySem.W.kitOne K (.ref (He.ga K "BadExponent")) (.ref (He.ga K "TooLarge")) = some false
  i_TooLarge_BadCount : PySem.W.kitOne K (.ref (He.ga K "TooLarge")) (.ref (He.ga K "BadCount")) = some false
  i_TooLarge_BadSizes : PySem.W.kitOne K (.ref (He.ga K "TooLarge")) (.ref (He.ga K "BadSizes")) = some false
  i_TooLarge_BadExponent : PySem.W.kitOne K (.ref (He.ga K "TooLarge")) (.ref (He.ga K "BadExponent")) = some false
  i_TooLarge_TooLarge : PySem.W.kitOne K (.ref (He.ga K "TooLarge")) (.ref (He.ga K "TooLarge")) = some true
  v_BadCount : PySem.W.kitOne K (.ref (He.ga K "BadCount")) (.type "ValueError") = some true
  v_BadSizes : PySem.W.kitOne K (.ref (He.ga K "BadSizes")) (.type "ValueError") = some true
  v_BadExponent : PySem.W.kitOne K (.ref (He.ga K "BadExponent")) (.type "ValueError") = some true
  v_TooLarge : PySem.W.kitOne K (.ref (He.ga K "TooLarge")) (.type "ValueError") = some true
  m_BadCount : PySem.W.exmOne K (.ref (He.ga K "BadCount")) (.ref (He.ga K "FormsError")) = some true
  m_BadSizes : PySem.W.exmOne K (.ref (He.ga K "BadSizes")) (.ref (He.ga K "FormsError")) = some true
  m_BadExponent : PySem.W.exmOne K (.ref (He.ga K "BadExponent")) (.ref (He.ga K "FormsError")) = some true
  m_TooLarge : PySem.W.exmOne K (.ref (He.ga K "TooLarge")) (.ref (He.ga K "FormsError")) = some true
theorem Fe.ix_BadCount (F : Fe K) (c : Nat) (r : Bool) (e : an_BadCount c = some r) : ExcC K (cm K c) ∧ PySem.W.kitOne K (.ref (cm K c)) (.ref (He.ga K "BadCount")) = some r :=
  match c, e with
  | 0, e => by cases e; exact ⟨F.e_BadCount.e, F.i_BadCount_BadCount⟩
  | 1, e => by cases e; exact ⟨F.e_BadSizes.e, F.i_BadSizes_BadCount⟩
  | 2, e => by cases e; exact ⟨F.e_BadExponent.e, F.i_BadExponent_BadCount⟩
  | 3, e => by cases e; exact ⟨F.e_TooLarge.e, F.i_TooLarge_BadCount⟩
  | _ + 4, e => by cases e
theorem Fe.ix_BadSizes (F : Fe K) (c : Nat) (r : Bool) (e : an_BadSizes c = some r) : ExcC K (cm K c) ∧ PySem.W.kitOne K (.ref (cm K c)) (.ref (He.ga K "BadSizes")) = some r :=
  match c, e with
  | 0, e => by cases e; exact ⟨F.e_BadCount.e, F.i_BadCount_BadSizes⟩
  | 1, e => by cases e; exact ⟨F.e_BadSizes.e, F.i_BadSizes_BadSizes⟩
  | 2, e => by cases e; exact ⟨F.e_BadExponent.e, F.i_BadExponent_BadSizes⟩
  | 3, e => by cases e; exact ⟨F.e_TooLarge.e, F.i_TooLarge_BadSizes⟩
  | _ + 4, e => by cases e
theorem Fe.ix_BadExponent (F : Fe K) (c : Nat) (r : Bool) (e : an_BadExponent c = some r) : ExcC K (cm K c) ∧ PySem.W.kitOne K (.ref (cm K c)) (.ref (He.ga K "BadExponent")) = some r :=
  match c, e with
  | 0, e => by cases e; exact ⟨F.e_BadCount.e, F.i_BadCount_BadExponent⟩
  | 1, e => by cases e; exact ⟨F.e_BadSizes.e, F.i_BadSizes_BadExponent⟩
  | 2, e => by cases e; exact ⟨F.e_BadExponent.e, F.i_BadExponent_BadExponent⟩
  | 3, e => by cases e; exact ⟨F.e_TooLarge.e, F.i_TooLarge_BadExponent⟩
  | _ + 4, e => by cases e
theorem Fe.ix_TooLarge (F : Fe K) (c : Nat) (r : Bool) (e : an_TooLarge c = some r) : ExcC K (cm K c) ∧ PySem.W.kitOne K (.ref (cm K c)) (.ref (He.ga K "TooLarge")) = some r :=
  match c, e with
  | 0, e => by cases e; exact ⟨F.e_BadCount.e, F.i_BadCount_TooLarge⟩
  | 1, e => by cases e; exact ⟨F.e_BadSizes.e, F.i_BadSizes_TooLarge⟩
  | 2, e => by cases e; exact ⟨F.e_BadExponent.e, F.i_BadExponent_TooLarge⟩
  | 3, e => by cases e; exact ⟨F.e_TooLarge.e, F.i_TooLarge_TooLarge⟩
  | _ + 4, e => by cases e
theorem Fe.ix_ValueError (F : Fe K) (c : Nat) (r : Bool) (e : an_ValueError c = some r) : ExcC K (cm K c) ∧ PySem.W.kitOne K (.ref (cm K c)) (.type "ValueError") = some r :=
  match c, e with
  | 0, e => by cases e; exact ⟨F.e_BadCount.e, F.v_BadCount⟩
  | 1, e => by cases e; exact ⟨F.e_BadSizes.e, F.v_BadSizes⟩
  | 2, e => by cases e; exact ⟨F.e_BadExponent.e, F.v_BadExponent⟩
  | 3, e => by cases e; exact ⟨F.e_TooLarge.e, F.v_TooLarge⟩
  | _ + 4, e => by cases e
theorem Fe.em_FormsError (F : Fe K) (c : Nat) (r : Bool) (e : is_FormsError c = some r) : PySem.W.exmOne K (.ref (cm K c)) (.ref (He.ga K "FormsError")) = some r :=
  match c, e with
  | 0, e => by cases e; exact F.m_BadCount
  | 1, e => by cases e; exact F.m_BadSizes
  | 2, e => by cases e; exact F.m_BadExponent
  | 3, e => by cases e; exact F.m_TooLarge
  | _ + 4, e => by cases e
theorem Fe.xf_count (F : Fe K) : ∀ c ∈ [0], XfC K (cm K c) ∧ PySem.W.findIn K (.ref (cm K c)) "count" = some none := fun c h => by
  rw [List.mem_singleton.mp h]
  exact ⟨F.e_BadCount.f, F.e_BadCount.n _ (by simp)⟩
theorem Fe.xf_exponent (F : Fe K) : ∀ c ∈ [2], XfC K (cm K c) ∧ PySem.W.findIn K (.ref (cm K c)) "exponent" = some none := fun c h => by
  rw [List.mem_singleton.mp h]
  exact ⟨F.e_BadExponent.f, F.e_BadExponent.n _ (by simp)⟩
theorem Fe.xf_size (F : Fe K) : ∀ c ∈ [3], XfC K (cm K c) ∧ PySem.W.findIn K (.ref (cm K c)) "size" = some none := fun c h => by
  rw [List.mem_singleton.mp h]
  exact ⟨F.e_TooLarge.f, F.e_TooLarge.n _ (by simp)⟩
end
abbrev s_BadCount : Stmt := inBody (top 3) 0
theorem sc_BadCount : FnScope ["self", "count"] ["self", "count"] (defScope s_BadCount) := ⟨rfl, rfl, rfl, by decide +kernel, rfl, by decide +kernel, by decide +kernel⟩
theorem e_BadCount {P : Program} {w : World} {K : PySem.W.Frag} {mg : Str → Option Value} {base : Heap} {fd : FuncData} (F : Fe K) (g : Glo K mg) (Fd : FunD K "__init__" "BadCount.__init__" (defArgs s_BadCount) (defBody s_BadCount) (defScope s_BadCount) [] [] (He.ma K (He.ga K "BadCount") "__init__") fd) : ExcP P w K mg base (cm K) "BadCount" 0 ["count"] 1 :=
  ⟨⟨_, fd, ["self", "count"], F.e_BadCount.o, F.e_BadCount.i, F.e_BadCount.t, fnInit Fd sc_BadCount rfl (fun cdv A outer s H E => in_cons (in_nil)), Fd.bindsN fun _ _ _ _ _ _ us hl => match us, hl with | [_, _], _ => rfl⟩, g.k_BadCount, F.e_BadCount.n, by simp, by simp⟩
abbrev s_BadSizes : Stmt := inBody (top 4) 0
theorem sc_BadSizes : FnScope ["self", "given", "wanted"] ["self", "given", "wanted"] (defScope s_BadSizes) := ⟨rfl, rfl, rfl, by decide +kernel, rfl, by decide +kernel, by decide +kernel⟩
theorem e_BadSizes {P : Program} {w : World} {K : PySem.W.Frag} {mg : Str → Option Value} {base : Heap} {fd : FuncData} (F : Fe K) (g : Glo K mg) (Fd : FunD K "__init__" "BadSizes.__init__" (defArgs s_BadSizes) (defBody s_BadSizes) (defScope s_BadSizes) [] [] (He.ma K (He.ga K "BadSizes") "__init__") fd) : ExcP P w K mg base (cm K) "BadSizes" 1 ["given", "wanted"] 1 :=
  ⟨⟨_, fd, ["self", "given", "wanted"], F.e_BadSizes.o, F.e_BadSizes.i, F.e_BadSizes.t, fnInit Fd sc_BadSizes rfl (fun cdv A outer s H E => in_cons (in_cons (in_nil))), Fd.bindsN fun _ _ _ _ _ _ us hl => match us, hl with | [_, _, _], _ => rfl⟩, g.k_BadSizes, F.e_BadSizes.n, by simp, by simp⟩
abbrev s_BadExponent : Stmt := inBody (top 5) 0
theorem sc_BadExponent : FnScope ["self", "exponent"] ["self", "exponent"] (defScope s_BadExponent) := ⟨rfl, rfl, rfl, by decide +kernel, rfl, by decide +kernel, by decide +kernel⟩
theorem e_BadExponent {P : Program} {w : World} {K : PySem.W.Frag} {mg : Str → Option Value} {base : Heap} {fd : FuncData} (F : Fe K) (g : Glo K mg) (Fd : FunD K "__init__" "BadExponent.__init__" (defArgs s_BadExponent) (defBody s_BadExponent) (defScope s_BadExponent) [] [] (He.ma K (He.ga K "BadExponent") "__init__") fd) : ExcP P w K mg base (cm K) "BadExponent" 2 ["exponent"] 1 :=
  ⟨⟨_, fd, ["self", "exponent"], F.e_BadExponent.o, F.e_BadExponent.i, F.e_BadExponent.t, fnInit Fd sc_BadExponent rfl (fun cdv A outer s H E => in_cons (in_nil)), Fd.bindsN fun _ _ _ _ _ _ us hl => match us, hl with | [_, _], _ => rfl⟩, g.k_BadExponent, F.e_BadExponent.n, by simp, by simp⟩
abbrev s_TooLarge : Stmt := inBody (top 6) 0
theorem sc_TooLarge : FnScope ["self", "size"] ["self", "size"] (defScope s_TooLarge) := ⟨rfl, rfl, rfl, by decide +kernel, rfl, by decide +kernel, by decide +kernel⟩
theorem e_TooLarge {P : Program} {w : World} {K : PySem.W.Frag} {mg : Str → Option Value} {base : Heap} {fd : FuncData} (F : Fe K) (g : Glo K mg) (Fd : FunD K "__init__" "TooLarge.__init__" (defArgs s_TooLarge) (defBody s_TooLarge) (defScope s_TooLarge) [] [] (He.ma K (He.ga K "TooLarge") "__init__") fd) : ExcP P w K mg base (cm K) "TooLarge" 3 ["size"] 1 :=
  ⟨⟨_, fd, ["self", "size"], F.e_TooLarge.o, F.e_TooLarge.i, F.e_TooLarge.t, fnInit Fd sc_TooLarge rfl (fun cdv A outer s H E => in_cons (in_nil)), Fd.bindsN fun _ _ _ _ _ _ us hl => match us, hl with | [_, _], _ => rfl⟩, g.k_TooLarge, F.e_TooLarge.n, by simp, by simp⟩
abbrev s_check_letters : Stmt := top 14
theorem sc_check_letters : FnScope ["letters"] ["letters"] (defScope s_check_letters) := ⟨rfl, rfl, rfl, by decide +kernel, rfl, by decide +kernel, by decide +kernel⟩
def b_check_letters : DS := sIf (bdNot (bdVal (dChain leD leD (dC (.int 1)) (dVar 0) (dC (.int 12))))) (sRaise 0 ["count"] (lCons (dVar 0) lNil)) sNil
def f_check_letters : Fn := runF 1 b_check_letters
theorem d_check_letters {P : Program} {w : World} {K : PySem.W.Frag} {mg : Str → Option Value} {base : Heap} {fd : FuncData} (F : Fe K) (g : Glo K mg) (e_BadCount : ExcP P w K mg base (cm K) "BadCount" 0 ["count"] 1) (Fd : FunD K "check_letters" "check_letters" (defArgs s_check_letters) (defBody s_check_letters) (defScope s_check_letters) [] [] (He.ga K "check_letters") fd) : DefP P w K mg base ⟨cm K, none⟩ "check_letters" 4 1 f_check_letters := by
  have hrc : (⟨cm K, none⟩ : RC K).hx = none := rfl
  refine ⟨_, fd, ["letters"], [], [], fnU (N := ["letters"]) (ps := ["letters"]) (k := 3) (F := b_check_letters) hrc Fd sc_check_letters (fun cdv A outer s H E en W hr tk => ?_), g.d_check_letters, Fd.kp, Fd.bindsN fun _ _ _ _ _ _ us hl => match us, hl with | [_], _ => rfl, .nil, rfl, rfl⟩
  have hu : (A.deeper (envOfC "check_letters" (defScope s_check_letters) s.heap.objs.size (He.ga K "check_letters") cdv)).units + 64 < cLine := by have := hr.un; omega
  exact qs_one (q_if (pb_not (pb_chain op_leD op_leD pu_int (pu_var 0) (pu_gint g.c_MOST_LETTERS))) (qs_one (q_raise rfl tk e_BadCount.k (hr.mono (by decide)) (pl_cons (pu_var 0) pl_nil))) qs_nil)
abbrev s_monomial_count : Stmt := top 12
theorem sc_monomial_count : FnScope ["letters", "degree"] ["letters", "degree"] (defScope s_monomial_count) := ⟨rfl, rfl, rfl, by decide +kernel, rfl, by decide +kernel, by decide +kernel⟩
def b_monomial_count : DS := sSeq (sDrop (dCallU f_check_letters (lenIs 1 (aV (dVar 0) aNil)))) (sSeq (sIf (bdNot (bdVal (dChain leD leD (dC (.int 0)) (dVar 1) (dC (.int 32))))) (sRaise 0 ["count"] (lCons (dVar 1) lNil)) sNil) (sRet (dCall combD (lCons (dOp subD (dOp addD (dVar 0) (dVar 1)) (dC (.int 1))) (lCons (dVar 1) lNil)))))
def f_monomial_count : Fn := runF 2 b_monomial_count
theorem d_monomial_count {P : Program} {w : World} {K : PySem.W.Frag} {mg : Str → Option Value} {base : Heap} {fd : FuncData} (F : Fe K) (g : Glo K mg) (e_BadCount : ExcP P w K mg base (cm K) "BadCount" 0 ["count"] 1) (d_check_letters : DefP P w K mg base ⟨cm K, none⟩ "check_letters" 4 1 f_check_letters) (Fd : FunD K "monomial_count" "monomial_count" (defArgs s_monomial_count) (defBody s_monomial_count) (defScope s_monomial_count) [] [] (He.ga K "monomial_count") fd) : DefP P w K mg base ⟨cm K, none⟩ "monomial_count" 5 2 f_monomial_count := by
  have hrc : (⟨cm K, none⟩ : RC K).hx = none := rfl
  refine ⟨_, fd, ["letters", "degree"], [], [], fnU (N := ["letters", "degree"]) (ps := ["letters", "degree"]) (k := 4) (F := b_monomial_count) hrc Fd sc_monomial_count (fun cdv A outer s H E en W hr tk => ?_), g.d_monomial_count, Fd.kp, Fd.bindsN fun _ _ _ _ _ _ us hl => match us, hl with | [_, _], _ => rfl, .nil, rfl, rfl⟩
  have hu : (A.deeper (envOfC "monomial_count" (defScope s_monomial_count) s.heap.objs.size (He.ga K "monomial_count") cdv)).units + 64 < cLine := by have := hr.un; omega
  exact qs_cons (q_expr (pu_fn tk ⟨d_check_letters⟩ (hr.mono (by decide)) (al_v (pu_var 0) al_nil))) (qs_cons (q_if (pb_not (pb_chain op_leD op_leD pu_int (pu_var 1) (pu_gint g.c_MOST_DEGREE))) (qs_one (q_raise rfl tk e_BadCount.k (hr.mono (by decide)) (pl_cons (pu_var 1) pl_nil))) qs_nil) (qs_one (q_ret (pu_call c_comb (.glo rfl g.m_comb rfl) (pl_cons (pu_op op_subD (pu_op op_addD (pu_var 0) (pu_var 1)) pu_int) (pl_cons (pu_var 1) pl_nil))))))
abbrev s_monomials : Stmt := top 11
theorem sc_monomials : FnScope ["letters", "degree", "size", "rows", "_", "head", "rest", "exponent"] ["letters", "degree"] (defScope s_monomials) := ⟨rfl, rfl, rfl, by decide +kernel, rfl, by decide +kernel, by decide +kernel⟩
def b_monomials : DS := sSeq (sSet 2 (dCallU f_monomial_count (lenIs 2 (aV (dVar 0) (aV (dVar 1) aNil))))) (sSeq (sIf (bdVal (dOp gtD (dVar 2) (dC (.int 1000)))) (sRaise 3 ["size"] (lCons (dVar 2) lNil)) sNil) (sSeq (sSetF 3 (dLst (lCons (dTup (lCons (dTup lNil) (lCons (dVar 1) lNil))) lNil))) (sSeq (sFor (iR1 (lCons (dOp subD (dVar 0) (dC (.int 1))) lNil)) (gN 4) (sSetF 3 (dLc2 (iSq (dVar 3)) [5, 6, 7] (gT (gsCons (gN 5) (gsCons (gN 6) gsNil)) 2) bdYes (iR3 (lCons (dVar 6) (lCons (dNeg (dC (.int 1))) (lCons (dNeg (dC (.int 1))) lNil)))) [7] (gN 7) bdYes (dTup (lCons (dOp addD (dVar 5) (dTup (lCons (dVar 7) lNil))) (lCons (dOp subD (dVar 6) (dVar 7)) lNil)))))) (sRetF (dLc (iSq (dVar 3)) [5, 6] (gT (gsCons (gN 5) (gsCons (gN 6) gsNil)) 2) bdYes (dOp addD (dVar 5) (dTup (lCons (dVar 6) lNil))))))))
def f_monomials : Fn := runF 8 b_monomials
theorem d_monomials {P : Program} {w : World} {K : PySem.W.Frag} {mg : Str → Option Value} {base : Heap} {fd : FuncData} (F : Fe K) (g : Glo K mg) (e_TooLarge : ExcP P w K mg base (cm K) "TooLarge" 3 ["size"] 1) (d_monomial_count : DefP P w K mg base ⟨cm K, none⟩ "monomial_count" 5 2 f_monomial_count) (Fd : FunD K "monomials" "monomials" (defArgs s_monomials) (defBody s_monomials) (defScope s_monomials) [] [] (He.ga K "monomials") fd) : DefP P w K mg base ⟨cm K, none⟩ "monomials" 6 2 f_monomials := by
  have hrc : (⟨cm K, none⟩ : RC K).hx = none := rfl
  refine ⟨_, fd, ["letters", "degree"], [], [], fnU (N := ["letters", "degree", "size", "rows", "_", "head", "rest", "exponent"]) (ps := ["letters", "degree"]) (k := 5) (F := b_monomials) hrc Fd sc_monomials (fun cdv A outer s H E en W hr tk => ?_), g.d_monomials, Fd.kp, Fd.bindsN fun _ _ _ _ _ _ us hl => match us, hl with | [_, _], _ => rfl, .nil, rfl, rfl⟩
  have hu : (A.deeper (envOfC "monomials" (defScope s_monomials) s.heap.objs.size (He.ga K "monomials") cdv)).units + 64 < cLine := by have := hr.un; omega
  exact qs_cons (q_set (i := 2) sc_monomials.nd (pu_fn tk ⟨d_monomial_count⟩ (hr.mono (by decide)) (al_v (pu_var 0) (al_v (pu_var 1) al_nil)))) (qs_cons (q_if (pb_cmp op_gtD (pu_var 2) (pu_gint g.c_MOST_MONOMIALS)) (qs_one (q_raise rfl tk e_TooLarge.k (hr.mono (by decide)) (pl_cons (pu_var 2) pl_nil))) qs_nil) (qs_cons (q_setF (i := 3) sc_monomials.nd (pf_lst (pl_cons (pu_tup (pl_cons (pu_tup pl_nil) (pl_cons (pu_var 1) pl_nil))) pl_nil))) (qs_cons (q_for PassesOwn.leaving rfl (w_range1 g.n_range (pl_cons (pu_op op_subD (pu_var 0) pu_int) pl_nil)) (g_name (i := 4) sc_monomials.nd) (qs_one (q_setLc2 (i := 3) (own := [("head", 5), ("rest", 6), ("exponent", 7)]) (vs1 := [7]) rfl sc_monomials.nd (sw_true rfl rfl rfl rfl) (w_seq (pu_var 3)) (blkOk_by (by kernel_rfl)) (fun en s H C cl fp => g_tup rfl (gs_cons (g_name (i := 5) sc_monomials.nd) (gs_cons (g_name (i := 6) sc_monomials.nd) gs_nil))) (fun en s H C cl fp => pts_nil') (fun en s H C cl fp => w_range3 g.n_range (pl_cons (pu_var 6) (pl_cons (pu_neg pu_int) (pl_cons (pu_neg pu_int) pl_nil)))) (fun en s H C cl fp => g_name (i := 7) sc_monomials.nd) (fun en s H C cl fp => pts_nil') (fun en s H C cl fp => pu_tup (pl_cons (pu_op op_addD (pu_var 5) (pu_tup (pl_cons (pu_var 7) pl_nil))) (pl_cons (pu_op op_subD (pu_var 6) (pu_var 7)) pl_nil)))))) (qs_one (q_retF (pf_lc (own := [("head", 5), ("rest", 6)]) rfl sc_monomials.nd (w_seq (pu_var 3)) (blkOk_by (by kernel_rfl)) (fun en s H C cl fp => g_tup rfl (gs_cons (g_name (i := 5) sc_monomials.nd) (gs_cons (g_name (i := 6) sc_monomials.nd) gs_nil))) (fun en s H C cl fp => pts_nil') (fun en s H C cl fp => pu_op op_addD (pu_var 5) (pu_tup (pl_cons (pu_var 6) pl_nil)))))))))
abbrev s_check_exponents : Stmt := top 15
theorem sc_check_exponents : FnScope ["letters", "exponents", "exponent"] ["letters", "exponents"] (defScope s_check_exponents) := ⟨rfl, rfl, rfl, by decide +kernel, rfl, by decide +kernel, by decide +kernel⟩
def b_check_exponents : DS := sSeq (sIf (bdVal (dOp neD (dCall1 lenD (dSee 1)) (dVar 0))) (sRaise 1 ["given", "wanted"] (lCons (dCall1 lenD (dSee 1)) (lCons (dVar 0) lNil))) sNil) (sFor (iSq (dVar 1)) (gN 2) (sIf (bdVal (dOp ltD (dVar 2) (dC (.int 0)))) (sRaise 2 ["exponent"] (lCons (dVar 2) lNil)) sNil))
def f_check_exponents : Fn := runF 3 b_check_exponents
theorem d_check_exponents {P : Program} {w : World} {K : PySem.W.Frag} {mg : Str → Option Value} {base : Heap} {fd : FuncData} (F : Fe K) (g : Glo K mg) (e_BadExponent : ExcP P w K mg base (cm K) "BadExponent" 2 ["exponent"] 1) (e_BadSizes : ExcP P w K mg base (cm K) "BadSizes" 1 ["given", "wanted"] 1) (Fd : FunD K "check_exponents" "check_exponents" (defArgs s_check_exponents) (defBody s_check_exponents) (defScope s_check_exponents) [] [] (He.ga K "check_exponents") fd) : DefP P w K mg base ⟨cm K, none⟩ "check_exponents" 4 2 f_check_exponents := by
  have hrc : (⟨cm K, none⟩ : RC K).hx = none := rfl
  refine ⟨_, fd, ["letters", "exponents"], [], [], fnU (N := ["letters", "exponents", "exponent"]) (ps := ["letters", "exponents"]) (k := 3) (F := b_check_exponents) hrc Fd sc_check_exponents (fun cdv A outer s H E en W hr tk => ?_), g.d_check_exponents, Fd.kp, Fd.bindsN fun _ _ _ _ _ _ us hl => match us, hl with | [_, _], _ => rfl, .nil, rfl, rfl⟩
  have hu : (A.deeper (envOfC "check_exponents" (defScope s_check_exponents) s.heap.objs.size (He.ga K "check_exponents") cdv)).units + 64 < cLine := by have := hr.un; omega
  exact qs_cons (q_if (pb_cmp (op_neD' hu) (pu_callP c_len (.blt rfl g.n_len rfl (by decide) rfl) (pp_var 1)) (pu_var 0)) (qs_one (q_raise rfl tk e_BadSizes.k (hr.mono (by decide)) (pl_cons (pu_callP c_len (.blt rfl g.n_len rfl (by decide) rfl) (pp_var 1)) (pl_cons (pu_var 0) pl_nil)))) qs_nil) (qs_one (q_for PassesOwn.leaving rfl (w_seq (pu_var 1)) (g_name (i := 2) sc_check_exponents.nd) (qs_one (q_if (pb_cmp op_ltD (pu_var 2) pu_int) (qs_one (q_raise rfl tk e_BadExponent.k (hr.mono (by decide)) (pl_cons (pu_var 2) pl_nil))) qs_nil))))
abbrev s_monomial_place : Stmt := top 13
theorem sc_monomial_place : FnScope ["exponents", "letters", "rest", "place", "index", "exponent", "behind"] ["exponents"] (defScope s_monomial_place) := ⟨rfl, rfl, rfl, by decide +kernel, rfl, by decide +kernel, by decide +kernel⟩
def b_monomial_place : DS := sSeq (sSet 1 (dCall1 lenD (dSee 0))) (sSeq (sDrop (dCallU f_check_letters (lenIs 1 (aV (dVar 1) aNil)))) (sSeq (sDrop (dCallU f_check_exponents (lenIs 2 (aV (dVar 1) (aV (dVar 0) aNil))))) (sSeq (sSet 2 (dCall1 sumD (dSee 0))) (sSeq (sIf (bdVal (dOp gtD (dVar 2) (dC (.int 32)))) (sRaise 3 ["size"] (lCons (dVar 2) lNil)) sNil) (sSeq (sSet 3 (dC (.int 0))) (sSeq (sFor (iEn (dVar 0)) (gT (gsCons (gN 4) (gsCons (gN 5) gsNil)) 2) (sSeq (sSet 6 (dOp subD (dOp subD (dVar 1) (dVar 4)) (dC (.int 1)))) (sSeq (sIf (bdVal (dOp ltD (dVar 5) (dVar 2))) (sSet 3 (dOp addD (dVar 3) (dCall combD (lCons (dOp subD (dOp subD (dOp addD (dVar 6) (dVar 2)) (dVar 5)) (dC (.int 1))) (lCons (dVar 6) lNil))))) sNil) (sSet 2 (dOp subD (dVar 2) (dVar 5)))))) (sRetV 3)))))))
def f_monomial_place : Fn := runF 7 b_monomial_place
theorem d_monomial_place {P : Program} {w : World} {K : PySem.W.Frag} {mg : Str → Option Value} {base : Heap} {fd : FuncData} (F : Fe K) (g : Glo K mg) (e_TooLarge : ExcP P w K mg base (cm K) "TooLarge" 3 ["size"] 1) (d_check_exponents : DefP P w K mg base ⟨cm K, none⟩ "check_exponents" 4 2 f_check_exponents) (d_check_letters : DefP P w K mg base ⟨cm K, none⟩ "check_letters" 4 1 f_check_letters) (Fd : FunD K "monomial_place" "monomial_place" (defArgs s_monomial_place) (defBody s_monomial_place) (defScope s_monomial_place) [] [] (He.ga K "monomial_place") fd) : DefP P w K mg base ⟨cm K, none⟩ "monomial_place" 5 1 f_monomial_place := by
  have hrc : (⟨cm K, none⟩ : RC K).hx = none := rfl
  refine ⟨_, fd, ["exponents"], [], [], fnU (N := ["exponents", "letters", "rest", "place", "index", "exponent", "behind"]) (ps := ["exponents"]) (k := 4) (F := b_monomial_place) hrc Fd sc_monomial_place (fun cdv A outer s H E en W hr tk => ?_), g.d_monomial_place, Fd.kp, Fd.bindsN fun _ _ _ _ _ _ us hl => match us, hl with | [_], _ => rfl, .nil, rfl, rfl⟩
  have hu : (A.deeper (envOfC "monomial_place" (defScope s_monomial_place) s.heap.objs.size (He.ga K "monomial_place") cdv)).units + 64 < cLine := by have := hr.un; omega
  exact qs_cons (q_set (i := 1) sc_monomial_place.nd (pu_callP c_len (.blt rfl g.n_len rfl (by decide) rfl) (pp_var 0))) (qs_cons (q_expr (pu_fn tk ⟨d_check_letters⟩ (hr.mono (by decide)) (al_v (pu_var 1) al_nil))) (qs_cons (q_expr (pu_fn tk ⟨d_check_exponents⟩ (hr.mono (by decide)) (al_v (pu_var 1) (al_v (pu_var 0) al_nil)))) (qs_cons (q_set (i := 2) sc_monomial_place.nd (pu_callP (c_sum rfl) (.blt rfl g.n_sum rfl (by decide) rfl) (pp_var 0))) (qs_cons (q_if (pb_cmp op_gtD (pu_var 2) (pu_gint g.c_MOST_DEGREE)) (qs_one (q_raise rfl tk e_TooLarge.k (hr.mono (by decide)) (pl_cons (pu_var 2) pl_nil))) qs_nil) (qs_cons (q_set (i := 3) sc_monomial_place.nd pu_int) (qs_cons (q_for PassesOwn.leaving rfl (w_enumT g.n_enumerate (pu_var 0)) (g_tup rfl (gs_cons (g_name (i := 4) sc_monomial_place.nd) (gs_cons (g_name (i := 5) sc_monomial_place.nd) gs_nil))) (qs_cons (q_set (i := 6) sc_monomial_place.nd (pu_op op_subD (pu_op op_subD (pu_var 1) (pu_var 4)) pu_int)) (qs_cons (q_if (pb_cmp op_ltD (pu_var 5) (pu_var 2)) (qs_one (q_set (i := 3) sc_monomial_place.nd (pu_op op_addD (pu_var 3) (pu_call c_comb (.glo rfl g.m_comb rfl) (pl_cons (pu_op op_subD (pu_op op_subD (pu_op op_addD (pu_var 6) (pu_var 2)) (pu_var 5)) pu_int) (pl_cons (pu_var 6) pl_nil)))))) qs_nil) (qs_one (q_set (i := 2) sc_monomial_place.nd (pu_op op_subD (pu_var 2) (pu_var 5))))))) (qs_one (q_retV 3))))))))
abbrev s__law_pool : Stmt := top 17
theorem sc__law_pool : FnScope ["script", "cells", "parts", "cell", "k"] ["script"] (defScope s__law_pool) := ⟨rfl, rfl, rfl, by decide +kernel, rfl, by decide +kernel, by decide +kernel⟩
def b__law_pool : DS := sSeq (sSetF 1 (dLc (iSq (dSl (dVar 0) oNone (oSome (dC (.int 63))) slLD)) [3] (gN 3) bdYes (dOp modD (dCall1 intD (dSee 3)) (dOp powD (dC (.int 10)) (dC (.int 60)))))) (sSeq (sSetF 2 (dLc (iR1 (lCons (dCall1 lenD (dSee 1)) lNil)) [4] (gN 4) bdYes (dOp mulD (dOp modD (dCall1 intD (dIxv 1 (dVar 4))) (dC (.int 1000003))) (dOp addD (dVar 4) (dC (.int 1)))))) (sRetF (dLst (lCons (dC (.int 0)) (lCons (dC (.int 0)) (lCons (dVar 1) (lCons (dC (.int 0)) (lCons (dOp addD (dCall1 lenD (dSee 1)) (dCall1 sumD (dSee 2))) lNil))))))))
def f__law_pool : Fn := runF 5 b__law_pool
theorem d__law_pool {P : Program} {w : World} {K : PySem.W.Frag} {mg : Str → Option Value} {base : Heap} {fd : FuncData} (F : Fe K) (g : Glo K mg)  (Fd : FunD K "_law_pool" "_law_pool" (defArgs s__law_pool) (defBody s__law_pool) (defScope s__law_pool) [] [] (He.ga K "_law_pool") fd) : DefP P w K mg base ⟨cm K, none⟩ "_law_pool" 1 1 f__law_pool := by
  have hrc : (⟨cm K, none⟩ : RC K).hx = none := rfl
  refine ⟨_, fd, ["script"], [], [], fnU (N := ["script", "cells", "parts", "cell", "k"]) (ps := ["script"]) (k := 0) (F := b__law_pool) hrc Fd sc__law_pool (fun cdv A outer s H E en W hr tk => ?_), g.d__law_pool, Fd.kp, Fd.bindsN fun _ _ _ _ _ _ us hl => match us, hl with | [_], _ => rfl, .nil, rfl, rfl⟩
  have hu : (A.deeper (envOfC "_law_pool" (defScope s__law_pool) s.heap.objs.size (He.ga K "_law_pool") cdv)).units + 64 < cLine := by have := hr.un; omega
  exact qs_cons (q_setF (i := 1) sc__law_pool.nd (pf_lc (own := [("cell", 3)]) rfl sc__law_pool.nd (w_seq (pu_fresh (pf_sl (pu_var 0) pu_onone (pu_osome pu_int)))) (blkOk_by (by kernel_rfl)) (fun en s H C cl fp => g_name (i := 3) sc__law_pool.nd) (fun en s H C cl fp => pts_nil') (fun en s H C cl fp => pu_op op_modD (pu_callP c_int (.ty rfl g.n_int rfl (by decide) rfl) (pp_var 3)) (pu_op op_powD pu_int pu_int)))) (qs_cons (q_setLc (i := 2) (own := [("k", 4)]) rfl sc__law_pool.nd (sw_true rfl rfl rfl rfl) (w_range1 g.n_range (pl_cons (pu_callP c_len (.blt rfl g.n_len rfl (by decide) rfl) (pp_var 1)) pl_nil)) (blkOk_by (by kernel_rfl)) (fun en s H C cl fp => g_name (i := 4) sc__law_pool.nd) (fun en s H C cl fp => pts_nil') (fun en s H C cl fp => pu_op op_mulD (pu_op op_modD (pu_callP c_int (.ty rfl g.n_int rfl (by decide) rfl) (pp_of (pu_ixv 1 (pu_var 4)))) pu_int) (pu_op op_addD (pu_var 4) pu_int))) (qs_one (q_retF (pf_lst (pl_cons pu_int (pl_cons pu_int (pl_cons (pu_var 1) (pl_cons pu_int (pl_cons (pu_op op_addD (pu_callP c_len (.blt rfl g.n_len rfl (by decide) rfl) (pp_var 1)) (pu_callP (c_sum rfl) (.blt rfl g.n_sum rfl (by decide) rfl) (pp_var 2))) pl_nil)))))))))
abbrev s__law_draw : Stmt := top 18
theorem sc__law_draw : FnScope ["pool", "many", "turn", "place", "mixed", "digit"] ["pool", "many"] (defScope s__law_draw) := ⟨rfl, rfl, rfl, by decide +kernel, rfl, by decide +kernel, by decide +kernel⟩
def b__law_draw : DS := sSeq (sFor (iR1 (lCons (dC (.int 70)) lNil)) (gN 2) (sSeq (sIf (bdAnd (bdVal (dOp gtD (dIxv 0 (dC (.int 0))) (dC (.int 0)))) (bdVal (dOp ltD (dIxv 0 (dC (.int 1))) (dC (.int 60))))) sBk sNil) (sSeq (sSet 3 (dIxv 0 (dC (.int 3)))) (sSeq (sPut 0 (dOp addD (dVar 3) (dC (.int 1))) (dC (.int 3))) (sSeq (sPut 0 (dC (.int 0)) (dC (.int 1))) (sIf (bdVal (dOp ltD (dVar 3) (dCall1 lenD (dIxv 0 (dC (.int 2)))))) (sPut 0 (dOp ixD (dIxv 0 (dC (.int 2))) (dVar 3)) (dC (.int 0))) (sSeq (sSet 4 (dOp modD (dCall1 intD (dOp addD (dOp addD (dOp mulD (dIxv 0 (dC (.int 4))) (dC (.int 48271))) (dOp mulD (dVar 3) (dC (.int 69621)))) (dC (.int 105)))) (dC (.int 2147483647)))) (sPut 0 (dOp addD (dOp modD (dCall1 intD (dOp powD (dOp addD (dVar 4) (dOp powD (dC (.int 2)) (dC (.int 40)))) (dC (.int 9)))) (dOp addD (dOp powD (dC (.int 10)) (dC (.int 60))) (dC (.int 7)))) (dC (.int 1))) (dC (.int 0)))))))))) (sSeq (sSet 5 (dOp modD (dCall1 intD (dIxv 0 (dC (.int 0)))) (dVar 1))) (sSeq (sPut 0 (dOp fdivD (dIxv 0 (dC (.int 0))) (dVar 1)) (dC (.int 0))) (sSeq (sPut 0 (dOp addD (dIxv 0 (dC (.int 1))) (dC (.int 1))) (dC (.int 1))) (sRetV 5))))
def f__law_draw : Fn := runF 6 b__law_draw
theorem d__law_draw {P : Program} {w : World} {K : PySem.W.Frag} {mg : Str → Option Value} {base : Heap} {fd : FuncData} (F : Fe K) (g : Glo K mg)  (Fd : FunD K "_law_draw" "_law_draw" (defArgs s__law_draw) (defBody s__law_draw) (defScope s__law_draw) [] [] (He.ga K "_law_draw") fd) : DefP P w K mg base ⟨cm K, none⟩ "_law_draw" 1 2 f__law_draw := by
  have hrc : (⟨cm K, none⟩ : RC K).hx = none := rfl
  refine ⟨_, fd, ["pool", "many"], [], [], fnU (N := ["pool", "many", "turn", "place", "mixed", "digit"]) (ps := ["pool", "many"]) (k := 0) (F := b__law_draw) hrc Fd sc__law_draw (fun cdv A outer s H E en W hr tk => ?_), g.d__law_draw, Fd.kp, Fd.bindsN fun _ _ _ _ _ _ us hl => match us, hl with | [_, _], _ => rfl, .nil, rfl, rfl⟩
  have hu : (A.deeper (envOfC "_law_draw" (defScope s__law_draw) s.heap.objs.size (He.ga K "_law_draw") cdv)).units + 64 < cLine := by have := hr.un; omega
  exact qs_cons (q_for PassesOwn.leaving rfl (w_range1 g.n_range (pl_cons pu_int pl_nil)) (g_name (i := 2) sc__law_draw.nd) (qs_cons (q_if (PW.pt (pw_and' (pb_cmp op_gtD (pu_ixv 0 pu_int) pu_int) (pw_and1' (pb_cmp op_ltD (pu_ixv 0 pu_int) pu_int)))) (qs_one q_break) qs_nil) (qs_cons (q_set (i := 3) sc__law_draw.nd (pu_ixv 0 pu_int)) (qs_cons (q_put 0 (pu_op op_addD (pu_var 3) pu_int) pu_int) (qs_cons (q_put 0 pu_int pu_int) (qs_one (q_if (pb_cmp op_ltD (pu_var 3) (pu_callP c_len (.blt rfl g.n_len rfl (by decide) rfl) (pp_of (pu_ixv 0 pu_int)))) (qs_one (q_put 0 (pu_ix (pu_ixv 0 pu_int) (pu_var 3)) pu_int)) (qs_cons (q_set (i := 4) sc__law_draw.nd (pu_op op_modD (pu_callP c_int (.ty rfl g.n_int rfl (by decide) rfl) (pp_of (pu_op op_addD (pu_op op_addD (pu_op op_mulD (pu_ixv 0 pu_int) pu_int) (pu_op op_mulD (pu_var 3) pu_int)) pu_int))) pu_int)) (qs_one (q_put 0 (pu_op op_addD (pu_op op_modD (pu_callP c_int (.ty rfl g.n_int rfl (by decide) rfl) (pp_of (pu_op op_powD (pu_op op_addD (pu_var 4) (pu_op op_powD pu_int pu_int)) pu_int))) (pu_op op_addD (pu_op op_powD pu_int pu_int) pu_int)) pu_int) pu_int)))))))))) (qs_cons (q_set (i := 5) sc__law_draw.nd (pu_op op_modD (pu_callP c_int (.ty rfl g.n_int rfl (by decide) rfl) (pp_of (pu_ixv 0 pu_int))) (pu_var 1))) (qs_cons (q_put 0 (pu_op op_fdivD (pu_ixv 0 pu_int) (pu_var 1)) pu_int) (qs_cons (q_put 0 (pu_op op_addD (pu_ixv 0 pu_int) pu_int) pu_int) (qs_one (q_retV 5)))))
abbrev s__law_int : Stmt := top 19
theorem sc__law_int : FnScope ["told"] ["told"] (defScope s__law_int) := ⟨rfl, rfl, rfl, by decide +kernel, rfl, by decide +kernel, by decide +kernel⟩
def b__law_int : DS := sRet (dAnd (dCall1 (isTD ty_int) (dSee 0)) (dNot (dCall1 (isTD ty_bool) (dSee 0))))
def f__law_int : Fn := runF 1 b__law_int
theorem d__law_int {P : Program} {w : World} {K : PySem.W.Frag} {mg : Str → Option Value} {base : Heap} {fd : FuncData} (F : Fe K) (g : Glo K mg)  (Fd : FunD K "_law_int" "_law_int" (defArgs s__law_int) (defBody s__law_int) (defScope s__law_int) [] [] (He.ga K "_law_int") fd) : DefP P w K mg base ⟨cm K, none⟩ "_law_int" 1 1 f__law_int := by
  have hrc : (⟨cm K, none⟩ : RC K).hx = none := rfl
  refine ⟨_, fd, ["told"], [], [], fnU (N := ["told"]) (ps := ["told"]) (k := 0) (F := b__law_int) hrc Fd sc__law_int (fun cdv A outer s H E en W hr tk => ?_), g.d__law_int, Fd.kp, Fd.bindsN fun _ _ _ _ _ _ us hl => match us, hl with | [_], _ => rfl, .nil, rfl, rfl⟩
  have hu : (A.deeper (envOfC "_law_int" (defScope s__law_int) s.heap.objs.size (He.ga K "_law_int") cdv)).units + 64 < cLine := by have := hr.un; omega
  exact qs_one (q_ret (pu_and (pu_isT rfl g.n_isinstance (pp_var 0) rfl g.n_int rfl tk_int) (pu_one (op := .Add) (pu_not (pu_isT rfl g.n_isinstance (pp_var 0) rfl g.n_bool rfl tk_bool)))))
theorem x__law_int {P : Program} {w : World} {K : PySem.W.Frag} {mg : Str → Option Value} {base : Heap} {fd : FuncData} (F : Fe K) (g : Glo K mg)  (Fd : FunD K "_law_int" "_law_int" (defArgs s__law_int) (defBody s__law_int) (defScope s__law_int) [] [] (He.ga K "_law_int") fd) : DefXP P w K mg base (cm K) "_law_int" 1 1 f__law_int := by
  refine ⟨_, fd, ["told"], fnUX (N := ["told"]) (ps := ["told"]) (k := 0) (F := b__law_int) Fd sc__law_int (fun cdv A outer s H E p rc en hcm hot hr => ?_), g.d__law_int, Fd.kp, Fd.bindsN fun _ _ _ _ _ _ us hl => match us, hl with | [_], _ => rfl, rfl⟩
  have hu : (A.deeper (envOfC "_law_int" (defScope s__law_int) s.heap.objs.size (He.ga K "_law_int") cdv)).units + 64 < cLine := by have := hr.un; omega
  exact qs_one (q_ret (pu_and (pu_isT rfl g.n_isinstance (pp_var 0) rfl g.n_int rfl tk_int) (pu_one (op := .Add) (pu_not (pu_isT rfl g.n_isinstance (pp_var 0) rfl g.n_bool rfl tk_bool)))))
abbrev s__law_held : Stmt := top 20
theorem sc__law_held : FnScope ["name", "number"] ["name", "number"] (defScope s__law_held) := ⟨rfl, rfl, rfl, by decide +kernel, rfl, by decide +kernel, by decide +kernel⟩
def b__law_held : DS := sRet (dIf (bdVal (dCallX f__law_int 1 (lCons (dVar 1) lNil))) (dTup (lCons (dVar 0) (lCons (dVar 1) lNil))) (dTup (lCons (dC (.str "other")) (lCons (dVar 0) lNil))))
def f__law_held : Fn := runF 2 b__law_held
theorem x__law_held {P : Program} {w : World} {K : PySem.W.Frag} {mg : Str → Option Value} {base : Heap} {fd : FuncData} (F : Fe K) (g : Glo K mg) (x__law_int : DefXP P w K mg base (cm K) "_law_int" 1 1 f__law_int) (Fd : FunD K "_law_held" "_law_held" (defArgs s__law_held) (defBody s__law_held) (defScope s__law_held) [] [] (He.ga K "_law_held") fd) : DefXP P w K mg base (cm K) "_law_held" 2 2 f__law_held := by
  refine ⟨_, fd, ["name", "number"], fnUX (N := ["name", "number"]) (ps := ["name", "number"]) (k := 1) (F := b__law_held) Fd sc__law_held (fun cdv A outer s H E p rc en hcm hot hr => ?_), g.d__law_held, Fd.kp, Fd.bindsN fun _ _ _ _ _ _ us hl => match us, hl with | [_, _], _ => rfl, rfl⟩
  have hu : (A.deeper (envOfC "_law_held" (defScope s__law_held) s.heap.objs.size (He.ga K "_law_held") cdv)).units + 64 < cLine := by have := hr.un; omega
  exact qs_one (q_ret (pu_if (pb_val (pu_fnX hot (by rw [hcm]; exact ⟨x__law_int⟩) (hr.mono (by decide)) (pl_cons (pu_var 1) pl_nil))) (pu_tup (pl_cons (pu_var 0) (pl_cons (pu_var 1) pl_nil))) (pu_tup (pl_cons pu_str (pl_cons (pu_var 0) pl_nil)))))
abbrev s__law_error : Stmt := top 21
theorem sc__law_error : FnScope ["e", "kinds", "kind"] ["e"] (defScope s__law_error) := ⟨rfl, rfl, rfl, by decide +kernel, rfl, by decide +kernel, by decide +kernel⟩
def b__law_error : DS := sSeq (sSetF 1 (dLst (lCons (dCall1 (isXD an_BadCount) (dVar 0)) (lCons (dCall1 (isXD an_BadExponent) (dVar 0)) (lCons (dCall1 (isXD an_BadSizes) (dVar 0)) (lCons (dCall1 (isXD an_TooLarge) (dVar 0)) lNil)))))) (sSeq (sIf (bdOr (bdNot (bdVal (dCall1 (isXD an_ValueError) (dVar 0)))) (bdVal (dOp neD (dCall1 sumLD (dLc (iL (dVar 1)) [2] (gN 2) bdYes (dCall1 intD (dSee 2)))) (dC (.int 1))))) (sRet (dTup (lCons (dC (.str "other")) (lCons (dC (.str "")) lNil)))) sNil) (sSeq (sIf (bdVal (dCall1 (isXD an_BadCount) (dVar 0))) (sRet (dCallX f__law_held 2 (lCons (dC (.str "BadCount")) (lCons (dXf [0] "count" (dVar 0)) lNil)))) sNil) (sSeq (sIf (bdVal (dCall1 (isXD an_BadExponent) (dVar 0))) (sRet (dCallX f__law_held 2 (lCons (dC (.str "BadExponent")) (lCons (dXf [2] "exponent" (dVar 0)) lNil)))) sNil) (sSeq (sIf (bdVal (dCall1 (isXD an_TooLarge) (dVar 0))) (sRet (dCallX f__law_held 2 (lCons (dC (.str "TooLarge")) (lCons (dXf [3] "size" (dVar 0)) lNil)))) sNil) (sRet (dTup (lCons (dC (.str "other")) (lCons (dC (.str "BadSizes")) lNil))))))))
def f__law_error : Fn := runF 3 b__law_error
theorem x__law_error {P : Program} {w : World} {K : PySem.W.Frag} {mg : Str → Option Value} {base : Heap} {fd : FuncData} (F : Fe K) (g : Glo K mg) (x__law_held : DefXP P w K mg base (cm K) "_law_held" 2 2 f__law_held) (Fd : FunD K "_law_error" "_law_error" (defArgs s__law_error) (defBody s__law_error) (defScope s__law_error) [] [] (He.ga K "_law_error") fd) : DefXP P w K mg base (cm K) "_law_error" 3 1 f__law_error := by
  have ix_BadCount := F.ix_BadCount
  have ix_BadExponent := F.ix_BadExponent
  have ix_BadSizes := F.ix_BadSizes
  have ix_TooLarge := F.ix_TooLarge
  have ix_ValueError := F.ix_ValueError
  have xf_count := F.xf_count
  have xf_exponent := F.xf_exponent
  have xf_size := F.xf_size
  refine ⟨_, fd, ["e"], fnUX (N := ["e", "kinds", "kind"]) (ps := ["e"]) (k := 2) (F := b__law_error) Fd sc__law_error (fun cdv A outer s H E p rc en hcm hot hr => ?_), g.d__law_error, Fd.kp, Fd.bindsN fun _ _ _ _ _ _ us hl => match us, hl with | [_], _ => rfl, rfl⟩
  have hu : (A.deeper (envOfC "_law_error" (defScope s__law_error) s.heap.objs.size (He.ga K "_law_error") cdv)).units + 64 < cLine := by have := hr.un; omega
  exact qs_cons (q_setF (i := 1) sc__law_error.nd (pf_lst (pl_cons (pu_isX hot rfl g.n_isinstance (pu_var 0) rfl g.k_BadCount (by rw [hcm]; exact ix_BadCount)) (pl_cons (pu_isX hot rfl g.n_isinstance (pu_var 0) rfl g.k_BadExponent (by rw [hcm]; exact ix_BadExponent)) (pl_cons (pu_isX hot rfl g.n_isinstance (pu_var 0) rfl g.k_BadSizes (by rw [hcm]; exact ix_BadSizes)) (pl_cons (pu_isX hot rfl g.n_isinstance (pu_var 0) rfl g.k_TooLarge (by rw [hcm]; exact ix_TooLarge)) pl_nil)))))) (qs_cons (q_if (PW.pt (pw_or' (pb_not (pb_val (pu_isXT hot rfl g.n_isinstance (pu_var 0) rfl g.n_ValueError rfl (by rw [hcm]; exact ix_ValueError)))) (pw_or1' (pb_cmp (op_neD' hu) (pu_callP (c_sumH hot.hotC) (.blt rfl g.n_sum rfl (by decide) rfl) (pp_of (pu_fresh (pf_lcX (own := [("kind", 2)]) hot sc__law_error.nd (pu_var 1) (blkOk_by (by kernel_rfl)) (fun en s H C cl fp => g_name (i := 2) sc__law_error.nd) (fun en s H C cl fp => pu_callP c_int (.ty rfl g.n_int rfl (by decide) rfl) (pp_var 2)))))) pu_int)))) (qs_one (q_ret (pu_tup (pl_cons pu_str (pl_cons pu_str pl_nil))))) qs_nil) (qs_cons (q_if (pb_val (pu_isX hot rfl g.n_isinstance (pu_var 0) rfl g.k_BadCount (by rw [hcm]; exact ix_BadCount))) (qs_one (q_ret (pu_fnX hot (by rw [hcm]; exact ⟨x__law_held⟩) (hr.mono (by decide)) (pl_cons pu_str (pl_cons (pu_xf hot (pu_var 0) (by rw [hcm]; exact xf_count)) pl_nil))))) qs_nil) (qs_cons (q_if (pb_val (pu_isX hot rfl g.n_isinstance (pu_var 0) rfl g.k_BadExponent (by rw [hcm]; exact ix_BadExponent))) (qs_one (q_ret (pu_fnX hot (by rw [hcm]; exact ⟨x__law_held⟩) (hr.mono (by decide)) (pl_cons pu_str (pl_cons (pu_xf hot (pu_var 0) (by rw [hcm]; exact xf_exponent)) pl_nil))))) qs_nil) (qs_cons (q_if (pb_val (pu_isX hot rfl g.n_isinstance (pu_var 0) rfl g.k_TooLarge (by rw [hcm]; exact ix_TooLarge))) (qs_one (q_ret (pu_fnX hot (by rw [hcm]; exact ⟨x__law_held⟩) (hr.mono (by decide)) (pl_cons pu_str (pl_cons (pu_xf hot (pu_var 0) (by rw [hcm]; exact xf_size)) pl_nil))))) qs_nil) (qs_one (q_ret (pu_tup (pl_cons pu_str (pl_cons pu_str pl_nil)))))))))
abbrev s__law_ask : Stmt := top 22
theorem sc__law_ask : FnScope ["mode", "a", "b", "e", "told"] ["mode", "a", "b"] (defScope s__law_ask) := ⟨rfl, rfl, rfl, by decide +kernel, rfl, by decide +kernel, by decide +kernel⟩
def b__law_ask : DS := sTry 3 is_FormsError (sIf (bdVal (dOp eqD (dVar 0) (dC (.int 0)))) (sSetF 4 (dCallF f_monomials (lenIs 2 (aV (dVar 1) (aV (dVar 2) aNil))))) (sIf (bdVal (dOp eqD (dVar 0) (dC (.int 1)))) (sSet 4 (dCallU f_monomial_count (lenIs 2 (aV (dVar 1) (aV (dVar 2) aNil))))) (sSet 4 (dCallU f_monomial_place (lenIs 1 (aV (dVar 1) aNil)))))) (sRet (dCallX f__law_error 1 (lCons (dVar 3) lNil)))
def f__law_ask : Fn := runN 5 b__law_ask "told" 4
theorem n__law_ask {P : Program} {w : World} {K : PySem.W.Frag} {mg : Str → Option Value} {base : Heap} {fd : FuncData} (F : Fe K) (g : Glo K mg) (x__law_error : DefXP P w K mg base (cm K) "_law_error" 3 1 f__law_error) (d_monomial_count : DefP P w K mg base ⟨cm K, none⟩ "monomial_count" 5 2 f_monomial_count) (d_monomial_place : DefP P w K mg base ⟨cm K, none⟩ "monomial_place" 5 1 f_monomial_place) (d_monomials : DefP P w K mg base ⟨cm K, none⟩ "monomials" 6 2 f_monomials) (Fd : FunD K "_law_ask" "_law_ask" (defArgs s__law_ask) (defBody s__law_ask) (defScope s__law_ask) [] [] (He.ga K "_law_ask") fd) : DefNP P w K mg base ⟨cm K, none⟩ "_law_ask" 7 3 f__law_ask := by
  have hrc : (⟨cm K, none⟩ : RC K).hx = none := rfl; have em_FormsError := F.em_FormsError
  refine ⟨_, fd, ["mode", "a", "b"], fnN (N := ["mode", "a", "b", "e", "told"]) (ps := ["mode", "a", "b"]) (k := 6) (F := b__law_ask) (i := 4) hrc Fd sc__law_ask (fun cdv A outer s H E en W hr tk => ?_), g.d__law_ask, Fd.kp, Fd.bindsN fun _ _ _ _ _ _ us hl => match us, hl with | [_, _, _], _ => rfl, rfl⟩
  have hu : (A.deeper (envOfC "_law_ask" (defScope s__law_ask) s.heap.objs.size (He.ga K "_law_ask") cdv)).units + 64 < cLine := by have := hr.un; omega
  exact q_tryAs (i := 3) hrc rfl rfl sc__law_ask.nd rfl rfl g.k_FormsError tk em_FormsError (fun W pn xe tk' hp' => qs_one (q_if (pb_cmp (op_eqD' hu) (pu_var 0) pu_int) (qs_one (q_setF (i := 4) sc__law_ask.nd (pf_fn tk' ⟨d_monomials⟩ (hr.mono (by decide)) (al_v (pu_var 1) (al_v (pu_var 2) al_nil))))) (qs_one (q_if (pb_cmp (op_eqD' hu) (pu_var 0) pu_int) (qs_one (q_set (i := 4) sc__law_ask.nd (pu_fn tk' ⟨d_monomial_count⟩ (hr.mono (by decide)) (al_v (pu_var 1) (al_v (pu_var 2) al_nil))))) (qs_one (q_set (i := 4) sc__law_ask.nd (pu_fn tk' ⟨d_monomial_place⟩ (hr.mono (by decide)) (al_v (pu_var 1) al_nil)))))))) (fun a oe pn rcX hcm hot => qs_one (q_ret (pu_fnX hot (by rw [hcm]; exact ⟨x__law_error⟩) (room_mark (hr.mono (by decide)) _) (pl_cons (pu_var 3) pl_nil))))
abbrev s__law_ways : Stmt := top 23
theorem sc__law_ways : FnScope ["rows", "letters", "line", "total", "one", "k"] [] (defScope s__law_ways) := ⟨rfl, rfl, rfl, by decide +kernel, rfl, by decide +kernel, by decide +kernel⟩
def b__law_ways : DS := sSeq (sSetF 0 (dLst (lCons (dOp addD (dLst (lCons (dC (.int 1)) lNil)) (dLc (iR1 (lCons (dC (.int 32)) lNil)) [5] (gN 5) bdYes (dC (.int 0)))) lNil))) (sSeq (sFor (iR1 (lCons (dC (.int 12)) lNil)) (gN 1) (sSeq (sSetF 2 (dLst lNil)) (sSeq (sSet 3 (dC (.int 0))) (sSeq (sFor (iSq (dIxv 0 (dVar 1))) (gN 4) (sSeq (sSet 3 (dOp addD (dVar 3) (dVar 4))) (sDrop (dApp 2 (dVar 3))))) (sDrop (dApp 0 (dVar 2))))))) (sRetV 0))
def f__law_ways : Fn := runF 6 b__law_ways
theorem d__law_ways {P : Program} {w : World} {K : PySem.W.Frag} {mg : Str → Option Value} {base : Heap} {fd : FuncData} (F : Fe K) (g : Glo K mg)  (Fd : FunD K "_law_ways" "_law_ways" (defArgs s__law_ways) (defBody s__law_ways) (defScope s__law_ways) [] [] (He.ga K "_law_ways") fd) : DefP P w K mg base ⟨cm K, none⟩ "_law_ways" 1 0 f__law_ways := by
  have hrc : (⟨cm K, none⟩ : RC K).hx = none := rfl
  refine ⟨_, fd, [], [], [], fnU (N := ["rows", "letters", "line", "total", "one", "k"]) (ps := []) (k := 0) (F := b__law_ways) hrc Fd sc__law_ways (fun cdv A outer s H E en W hr tk => ?_), g.d__law_ways, Fd.kp, Fd.bindsN fun _ _ _ _ _ _ us hl => match us, hl with | [], _ => rfl, .nil, rfl, rfl⟩
  have hu : (A.deeper (envOfC "_law_ways" (defScope s__law_ways) s.heap.objs.size (He.ga K "_law_ways") cdv)).units + 64 < cLine := by have := hr.un; omega
  exact qs_cons (q_setF (i := 0) sc__law_ways.nd (pf_lst (pl_cons (pu_op op_addD (pu_fresh (pf_lst (pl_cons pu_int pl_nil))) (pu_fresh (pf_lc (own := [("k", 5)]) rfl sc__law_ways.nd (w_range1 g.n_range (pl_cons pu_int pl_nil)) (blkOk_by (by kernel_rfl)) (fun en s H C cl fp => g_name (i := 5) sc__law_ways.nd) (fun en s H C cl fp => pts_nil') (fun en s H C cl fp => pu_int)))) pl_nil))) (qs_cons (q_for PassesOwn.leaving rfl (w_range1 g.n_range (pl_cons pu_int pl_nil)) (g_name (i := 1) sc__law_ways.nd) (qs_cons (q_setF (i := 2) sc__law_ways.nd (pf_lst pl_nil)) (qs_cons (q_set (i := 3) sc__law_ways.nd pu_int) (qs_cons (q_for PassesOwn.leaving rfl (w_seq (pu_ixv 0 (pu_var 1))) (g_name (i := 4) sc__law_ways.nd) (qs_cons (q_set (i := 3) sc__law_ways.nd (pu_op op_addD (pu_var 3) (pu_var 4))) (qs_one (q_expr (pu_app 2 (pu_var 3)))))) (qs_one (q_expr (pu_app 0 (pu_var 2)))))))) (qs_one (q_retV 0)))
abbrev s__law_before : Stmt := top 24
theorem sc__law_before : FnScope ["ways", "exps", "place", "rest", "k", "greater"] ["ways", "exps"] (defScope s__law_before) := ⟨rfl, rfl, rfl, by decide +kernel, rfl, by decide +kernel, by decide +kernel⟩
def b__law_before : DS := sSeq (sSet 2 (dC (.int 0))) (sSeq (sSet 3 (dCall1 sumD (dSee 1))) (sSeq (sFor (iR1 (lCons (dCall1 lenD (dSee 1)) lNil)) (gN 4) (sSeq (sFor (iR2 (lCons (dOp addD (dIxv 1 (dVar 4)) (dC (.int 1))) (lCons (dOp addD (dVar 3) (dC (.int 1))) lNil))) (gN 5) (sSet 2 (dOp addD (dVar 2) (dOp ixD (dIxv 0 (dOp subD (dOp subD (dCall1 lenD (dSee 1)) (dVar 4)) (dC (.int 1)))) (dOp subD (dVar 3) (dVar 5)))))) (sSet 3 (dOp subD (dVar 3) (dIxv 1 (dVar 4)))))) (sRetV 2)))
def f__law_before : Fn := runF 6 b__law_before
theorem d__law_before {P : Program} {w : World} {K : PySem.W.Frag} {mg : Str → Option Value} {base : Heap} {fd : FuncData} (F : Fe K) (g : Glo K mg)  (Fd : FunD K "_law_before" "_law_before" (defArgs s__law_before) (defBody s__law_before) (defScope s__law_before) [] [] (He.ga K "_law_before") fd) : DefP P w K mg base ⟨cm K, none⟩ "_law_before" 1 2 f__law_before := by
  have hrc : (⟨cm K, none⟩ : RC K).hx = none := rfl
  refine ⟨_, fd, ["ways", "exps"], [], [], fnU (N := ["ways", "exps", "place", "rest", "k", "greater"]) (ps := ["ways", "exps"]) (k := 0) (F := b__law_before) hrc Fd sc__law_before (fun cdv A outer s H E en W hr tk => ?_), g.d__law_before, Fd.kp, Fd.bindsN fun _ _ _ _ _ _ us hl => match us, hl with | [_, _], _ => rfl, .nil, rfl, rfl⟩
  have hu : (A.deeper (envOfC "_law_before" (defScope s__law_before) s.heap.objs.size (He.ga K "_law_before") cdv)).units + 64 < cLine := by have := hr.un; omega
  exact qs_cons (q_set (i := 2) sc__law_before.nd pu_int) (qs_cons (q_set (i := 3) sc__law_before.nd (pu_callP (c_sum rfl) (.blt rfl g.n_sum rfl (by decide) rfl) (pp_var 1))) (qs_cons (q_for PassesOwn.leaving rfl (w_range1 g.n_range (pl_cons (pu_callP c_len (.blt rfl g.n_len rfl (by decide) rfl) (pp_var 1)) pl_nil)) (g_name (i := 4) sc__law_before.nd) (qs_cons (q_for PassesOwn.leaving rfl (w_range2 g.n_range (pl_cons (pu_op op_addD (pu_ixv 1 (pu_var 4)) pu_int) (pl_cons (pu_op op_addD (pu_var 3) pu_int) pl_nil))) (g_name (i := 5) sc__law_before.nd) (qs_one (q_set (i := 2) sc__law_before.nd (pu_op op_addD (pu_var 2) (pu_ix (pu_ixv 0 (pu_op op_subD (pu_op op_subD (pu_callP c_len (.blt rfl g.n_len rfl (by decide) rfl) (pp_var 1)) (pu_var 4)) pu_int)) (pu_op op_subD (pu_var 3) (pu_var 5))))))) (qs_one (q_set (i := 3) sc__law_before.nd (pu_op op_subD (pu_var 3) (pu_ixv 1 (pu_var 4))))))) (qs_one (q_retV 2))))
abbrev s__law_exps : Stmt := top 25
theorem sc__law_exps : FnScope ["pool", "letters", "degree", "exps", "left", "part", "place", "k"] ["pool", "letters", "degree"] (defScope s__law_exps) := ⟨rfl, rfl, rfl, by decide +kernel, rfl, by decide +kernel, by decide +kernel⟩
def b__law_exps : DS := sSeq (sSetF 3 (dLc (iR1 (lCons (dVar 1) lNil)) [7] (gN 7) bdYes (dC (.int 0)))) (sSeq (sSet 4 (dVar 2)) (sSeq (sFor (iSq (dLst (lCons (dCallU f__law_draw (lenIs 2 (aS 0 (aV (dOp addD (dVar 2) (dC (.int 1))) aNil)))) (lCons (dCallU f__law_draw (lenIs 2 (aS 0 (aV (dOp addD (dVar 2) (dC (.int 1))) aNil)))) (lCons (dCallU f__law_draw (lenIs 2 (aS 0 (aV (dOp addD (dVar 2) (dC (.int 1))) aNil)))) (lCons (dVar 2) lNil)))))) (gN 5) (sSeq (sSet 6 (dCallU f__law_draw (lenIs 2 (aS 0 (aV (dVar 1) aNil))))) (sSeq (sPut 3 (dOp addD (dIxv 3 (dVar 6)) (dCall minD (lCons (dVar 5) (lCons (dVar 4) lNil)))) (dVar 6)) (sSet 4 (dOp subD (dVar 4) (dCall minD (lCons (dVar 5) (lCons (dVar 4) lNil)))))))) (sRet (dCall1 tupD (dSee 3)))))
def f__law_exps : Fn := runF 8 b__law_exps
theorem d__law_exps {P : Program} {w : World} {K : PySem.W.Frag} {mg : Str → Option Value} {base : Heap} {fd : FuncData} (F : Fe K) (g : Glo K mg) (d__law_draw : DefP P w K mg base ⟨cm K, none⟩ "_law_draw" 1 2 f__law_draw) (Fd : FunD K "_law_exps" "_law_exps" (defArgs s__law_exps) (defBody s__law_exps) (defScope s__law_exps) [] [] (He.ga K "_law_exps") fd) : DefP P w K mg base ⟨cm K, none⟩ "_law_exps" 2 3 f__law_exps := by
  have hrc : (⟨cm K, none⟩ : RC K).hx = none := rfl
  refine ⟨_, fd, ["pool", "letters", "degree"], [], [], fnU (N := ["pool", "letters", "degree", "exps", "left", "part", "place", "k"]) (ps := ["pool", "letters", "degree"]) (k := 1) (F := b__law_exps) hrc Fd sc__law_exps (fun cdv A outer s H E en W hr tk => ?_), g.d__law_exps, Fd.kp, Fd.bindsN fun _ _ _ _ _ _ us hl => match us, hl with | [_, _, _], _ => rfl, .nil, rfl, rfl⟩
  have hu : (A.deeper (envOfC "_law_exps" (defScope s__law_exps) s.heap.objs.size (He.ga K "_law_exps") cdv)).units + 64 < cLine := by have := hr.un; omega
  exact qs_cons (q_setLc (i := 3) (own := [("k", 7)]) rfl sc__law_exps.nd (sw_true rfl rfl rfl rfl) (w_range1 g.n_range (pl_cons (pu_var 1) pl_nil)) (blkOk_by (by kernel_rfl)) (fun en s H C cl fp => g_name (i := 7) sc__law_exps.nd) (fun en s H C cl fp => pts_nil') (fun en s H C cl fp => pu_int)) (qs_cons (q_set (i := 4) sc__law_exps.nd (pu_var 2)) (qs_cons (q_for PassesOwn.leaving rfl (w_seq (pu_fresh (pf_lst (pl_cons (pu_fn tk ⟨d__law_draw⟩ (hr.mono (by decide)) (al_s 0 (al_v (pu_op op_addD (pu_var 2) pu_int) al_nil))) (pl_cons (pu_fn tk ⟨d__law_draw⟩ (hr.mono (by decide)) (al_s 0 (al_v (pu_op op_addD (pu_var 2) pu_int) al_nil))) (pl_cons (pu_fn tk ⟨d__law_draw⟩ (hr.mono (by decide)) (al_s 0 (al_v (pu_op op_addD (pu_var 2) pu_int) al_nil))) (pl_cons (pu_var 2) pl_nil))))))) (g_name (i := 5) sc__law_exps.nd) (qs_cons (q_set (i := 6) sc__law_exps.nd (pu_fn tk ⟨d__law_draw⟩ (hr.mono (by decide)) (al_s 0 (al_v (pu_var 1) al_nil)))) (qs_cons (q_put 3 (pu_op op_addD (pu_ixv 3 (pu_var 6)) (pu_call (c_min rfl) (.blt rfl g.n_min rfl (by decide) rfl) (pl_cons (pu_var 5) (pl_cons (pu_var 4) pl_nil)))) (pu_var 6)) (qs_one (q_set (i := 4) sc__law_exps.nd (pu_op op_subD (pu_var 4) (pu_call (c_min rfl) (.blt rfl g.n_min rfl (by decide) rfl) (pl_cons (pu_var 5) (pl_cons (pu_var 4) pl_nil))))))))) (qs_one (q_ret (pu_callP c_tuple (.ty rfl g.n_tuple rfl (by decide) rfl) (pp_var 3))))))
abbrev s__law_listed : Stmt := top 26
theorem sc__law_listed : FnScope ["ways", "letters", "degree", "due", "count", "answer", "told", "first", "again", "exps", "power", "k"] ["ways", "letters", "degree"] (defScope s__law_listed) := ⟨rfl, rfl, rfl, by decide +kernel, rfl, by decide +kernel, by decide +kernel⟩
def b__law_listed : DS := sSeq (sSet 3 (dOp ixD (dIxv 0 (dVar 1)) (dVar 2))) (sSeq (sSet 4 (dCallU f__law_ask (lenIs 3 (aV (dC (.int 1)) (aV (dVar 1) (aV (dVar 2) aNil)))))) (sSeq (sIf (bdOr (bdVal (dOp neD (dVar 4) (dTup (lCons (dC (.str "told")) (lCons (dVar 3) lNil))))) (bdNot (bdVal (dCallU f__law_int (lenIs 1 (aV (dIxv 4 (dC (.int 1))) aNil)))))) (sRet (dC (.bl false))) sNil) (sSeq (sSetN 5 f__law_ask 3 (lCons (dC (.int 0)) (lCons (dVar 1) (lCons (dVar 2) lNil)))) (sSeq (sIf (bdVal (dOp gtD (dVar 3) (dC (.int 1000)))) (sRet (dOp eqD (dVar 5) (dTup (lCons (dC (.str "TooLarge")) (lCons (dVar 3) lNil))))) sNil) (sSeq (sIf (bdOr (bdVal (dOp neD (dIxv 5 (dC (.int 0))) (dC (.str "told")))) (bdOr (bdNot (bdVal (dCall1 (isTD ty_list) (dIxv 5 (dC (.int 1)))))) (bdVal (dOp neD (dCall1 lenD (dIxv 5 (dC (.int 1)))) (dVar 3))))) (sRet (dC (.bl false))) sNil) (sSeq (sUnp 5 6) (sSeq (sIf (bdNot (bdVal (dCall1 allD (dLc (iSq (dVar 6)) [9] (gN 9) bdYes (dAnd (dCall1 (isTD ty_tuple) (dSee 9)) (dOp eqD (dCall1 lenD (dSee 9)) (dVar 1))))))) (sRet (dC (.bl false))) sNil) (sSeq (sIf (bdNot (bdVal (dCall1 allD (dLc (iSq (dVar 6)) [9] (gN 9) bdYes (dCall1 allD (dLc (iSq (dVar 9)) [10] (gN 10) bdYes (dAnd (dCallU f__law_int (lenIs 1 (aV (dVar 10) aNil))) (dOp geD (dVar 10) (dC (.int 0)))))))))) (sRet (dC (.bl false))) sNil) (sSeq (sIf (bdNot (bdVal (dCall1 allD (dLc (iSq (dVar 6)) [9] (gN 9) bdYes (dOp eqD (dCall1 sumD (dSee 9)) (dVar 2)))))) (sRet (dC (.bl false))) sNil) (sSeq (sIf (bdNot (bdVal (dCall1 allD (dLc (iR1 (lCons (dOp subD (dVar 3) (dC (.int 1))) lNil)) [11] (gN 11) bdYes (dOp gtAD (dCall1 lstD (dIxv 6 (dVar 11))) (dCall1 lstD (dIxv 6 (dOp addD (dVar 11) (dC (.int 1)))))))))) (sRet (dC (.bl false))) sNil) (sSeq (sSet 7 (dIxv 6 (dC (.int 0)))) (sSeq (sThaw 6) (sSeq (sDrop (dApp 6 (dTup (lCons (dC (.int 1)) lNil)))) (sSeq (sPut 6 (dTup (lCons (dC (.int 0)) lNil)) (dC (.int 0))) (sSeq (sSet 8 (dCallU f__law_ask (lenIs 3 (aV (dC (.int 0)) (aV (dVar 1) (aV (dVar 2) aNil)))))) (sRet (dAnd (dOp eqD (dIxv 8 (dC (.int 0))) (dC (.str "told"))) (dAnd (dOp eqD (dCall1 lenD (dIxv 8 (dC (.int 1)))) (dVar 3)) (dOp eqD (dOp ixD (dIxv 8 (dC (.int 1))) (dC (.int 0))) (dVar 7))))))))))))))))))))
def f__law_listed : Fn := runF 12 b__law_listed
theorem d__law_listed {P : Program} {w : World} {K : PySem.W.Frag} {mg : Str → Option Value} {base : Heap} {fd : FuncData} (F : Fe K) (g : Glo K mg) (n__law_ask : DefNP P w K mg base ⟨cm K, none⟩ "_law_ask" 7 3 f__law_ask) (d__law_ask : DefP P w K mg base ⟨cm K, none⟩ "_law_ask" 7 3 f__law_ask) (d__law_int : DefP P w K mg base ⟨cm K, none⟩ "_law_int" 1 1 f__law_int) (Fd : FunD K "_law_listed" "_law_listed" (defArgs s__law_listed) (defBody s__law_listed) (defScope s__law_listed) [] [] (He.ga K "_law_listed") fd) : DefP P w K mg base ⟨cm K, none⟩ "_law_listed" 8 3 f__law_listed := by
  have hrc : (⟨cm K, none⟩ : RC K).hx = none := rfl
  refine ⟨_, fd, ["ways", "letters", "degree"], [], [], fnU0 (N := ["ways", "letters", "degree", "due", "count", "answer", "told", "first", "again", "exps", "power", "k"]) (ps := ["ways", "letters", "degree"]) (k := 7) (F := b__law_listed) hrc Fd sc__law_listed (fun cdv A outer s H E en W hen hr tk => ?_), g.d__law_listed, Fd.kp, Fd.bindsN fun _ _ _ _ _ _ us hl => match us, hl with | [_, _, _], _ => rfl, .nil, rfl, rfl⟩
  have hu : (A.deeper (envOfC "_law_listed" (defScope s__law_listed) s.heap.objs.size (He.ga K "_law_listed") cdv)).units + 64 < cLine := by have := hr.un; omega
  exact qs0_cons (q_set (i := 3) sc__law_listed.nd (pu_ix (pu_ixv 0 (pu_var 1)) (pu_var 2))) (qs0_cons (q_set (i := 4) sc__law_listed.nd (pu_fn tk ⟨d__law_ask⟩ (hr.mono (by decide)) (al_v pu_int (al_v (pu_var 1) (al_v (pu_var 2) al_nil))))) (qs0_cons (q_if (PW.pt (pw_or' (pb_cmp (op_neD' hu) (pu_var 4) (pu_tup (pl_cons pu_str (pl_cons (pu_var 3) pl_nil)))) (pw_or1' (pb_not (pb_val (pu_fn tk ⟨d__law_int⟩ (hr.mono (by decide)) (al_v (pu_ixv 4 pu_int) al_nil))))))) (qs_one (q_ret pu_bl)) qs_nil) (qs0_cons (q_setN (i := 5) tk ⟨n__law_ask, runN_nf⟩ (hr.mono (by decide)) sc__law_listed.nd (pl_cons pu_int (pl_cons (pu_var 1) (pl_cons (pu_var 2) pl_nil)))) (qs0_cons (q_if (pb_cmp op_gtD (pu_var 3) pu_int) (qs_one (q_ret (pu_cmp (op_eqD' hu) (pu_var 5) (pu_tup (pl_cons pu_str (pl_cons (pu_var 3) pl_nil)))))) qs_nil) (qs0_cons (q_if (PW.pt (pw_or' (pb_cmp (op_neD' hu) (pu_ixv 5 pu_int) pu_str) (pw_or' (pb_not (pb_val (pu_isT rfl g.n_isinstance (pp_of (pu_ixv 5 pu_int)) rfl g.n_list rfl tk_list))) (pw_or1' (pb_cmp (op_neD' hu) (pu_callP c_len (.blt rfl g.n_len rfl (by decide) rfl) (pp_of (pu_ixv 5 pu_int))) (pu_var 3)))))) (qs_one (q_ret pu_bl)) qs_nil) (qs0_cons (q_unp 5 (j := 6) sc__law_listed.nd) (qs0_cons (q_if (pb_not (pb_val (pu_callP (c_all rfl) (.blt rfl g.n_all rfl (by decide) rfl) (pp_of (pu_fresh (pf_lc (own := [("exps", 9)]) rfl sc__law_listed.nd (w_seq (pu_var 6)) (blkOk_by (by kernel_rfl)) (fun en s H C cl fp => g_name (i := 9) sc__law_listed.nd) (fun en s H C cl fp => pts_nil') (fun en s H C cl fp => pu_and (pu_isT rfl g.n_isinstance (pp_var 9) rfl g.n_tuple rfl tk_tuple) (pu_one (op := .Add) (pu_cmp (op_eqD' hu) (pu_callP c_len (.blt rfl g.n_len rfl (by decide) rfl) (pp_var 9)) (pu_var 1)))))))))) (qs_one (q_ret pu_bl)) qs_nil) (qs0_cons (q_if (pb_not (pb_val (pu_callP (c_all rfl) (.blt rfl g.n_all rfl (by decide) rfl) (pp_of (pu_fresh (pf_lc (own := [("exps", 9)]) rfl sc__law_listed.nd (w_seq (pu_var 6)) (blkOk_by (by kernel_rfl)) (fun en s H C cl fp => g_name (i := 9) sc__law_listed.nd) (fun en s H C cl fp => pts_nil') (fun en s H C cl fp => pu_callP (c_all rfl) (.blt rfl g.n_all rfl (by decide) rfl) (pp_of (pu_fresh (pf_lc (own := [("power", 10)]) rfl sc__law_listed.nd (w_seq (pu_var 9)) (blkOk_by (by kernel_rfl)) (fun en s H C cl fp => g_name (i := 10) sc__law_listed.nd) (fun en s H C cl fp => pts_nil') (fun en s H C cl fp => pu_and (pu_fn takesF ⟨d__law_int⟩ (hr.mono (by decide)) (al_v (pu_var 10) al_nil)) (pu_one (op := .Add) (pu_cmp op_geD (pu_var 10) pu_int))))))))))))) (qs_one (q_ret pu_bl)) qs_nil) (qs0_cons (q_if (pb_not (pb_val (pu_callP (c_all rfl) (.blt rfl g.n_all rfl (by decide) rfl) (pp_of (pu_fresh (pf_lc (own := [("exps", 9)]) rfl sc__law_listed.nd (w_seq (pu_var 6)) (blkOk_by (by kernel_rfl)) (fun en s H C cl fp => g_name (i := 9) sc__law_listed.nd) (fun en s H C cl fp => pts_nil') (fun en s H C cl fp => pu_cmp (op_eqD' hu) (pu_callP (c_sum rfl) (.blt rfl g.n_sum rfl (by decide) rfl) (pp_var 9)) (pu_var 2)))))))) (qs_one (q_ret pu_bl)) qs_nil) (qs0_cons (q_if (pb_not (pb_val (pu_callP (c_all rfl) (.blt rfl g.n_all rfl (by decide) rfl) (pp_of (pu_fresh (pf_lc (own := [("k", 11)]) rfl sc__law_listed.nd (w_range1 g.n_range (pl_cons (pu_op op_subD (pu_var 3) pu_int) pl_nil)) (blkOk_by (by kernel_rfl)) (fun en s H C cl fp => g_name (i := 11) sc__law_listed.nd) (fun en s H C cl fp => pts_nil') (fun en s H C cl fp => pu_cmp (op_gtAD hu) (pu_fresh (pf_callF c_list (.ty rfl g.n_list rfl (by decide) rfl) (pp_of (pu_ixv 6 (pu_var 11))))) (pu_fresh (pf_callF c_list (.ty rfl g.n_list rfl (by decide) rfl) (pp_of (pu_ixv 6 (pu_op op_addD (pu_var 11) pu_int)))))))))))) (qs_one (q_ret pu_bl)) qs_nil) (qs0_cons (q_set (i := 7) sc__law_listed.nd (pu_ixv 6 pu_int)) (qs0_thaw 6 hrc hen (qs0_cons (q_expr (pu_app 6 (pu_tup (pl_cons pu_int pl_nil)))) (qs0_cons (q_put 6 (pu_tup (pl_cons pu_int pl_nil)) pu_int) (qs0_cons (q_set (i := 8) sc__law_listed.nd (pu_fn tk ⟨d__law_ask⟩ (hr.mono (by decide)) (al_v pu_int (al_v (pu_var 1) (al_v (pu_var 2) al_nil))))) (qs0_of (qs_one (q_ret (pu_and (pu_cmp (op_eqD' hu) (pu_ixv 8 pu_int) pu_str) (pu_and (pu_cmp (op_eqD' hu) (pu_callP c_len (.blt rfl g.n_len rfl (by decide) rfl) (pp_of (pu_ixv 8 pu_int))) (pu_var 3)) (pu_one (op := .Add) (pu_cmp (op_eqD' hu) (pu_ix (pu_ixv 8 pu_int) pu_int) (pu_var 7)))))))))))))))))))))))
abbrev s__law_placed : Stmt := top 27
theorem sc__law_placed : FnScope ["ways", "exps", "answer", "below", "power"] ["ways", "exps"] (defScope s__law_placed) := ⟨rfl, rfl, rfl, by decide +kernel, rfl, by decide +kernel, by decide +kernel⟩
def b__law_placed : DS := sSeq (sSet 2 (dCallU f__law_ask (lenIs 3 (aV (dC (.int 2)) (aV (dVar 1) (aV (dC (.int 0)) aNil)))))) (sSeq (sIf (bdOr (bdVal (dOp ltD (dCall1 lenD (dSee 1)) (dC (.int 1)))) (bdVal (dOp gtD (dCall1 lenD (dSee 1)) (dC (.int 12))))) (sRet (dOp eqD (dVar 2) (dTup (lCons (dC (.str "BadCount")) (lCons (dCall1 lenD (dSee 1)) lNil))))) sNil) (sSeq (sSetF 3 (dLc (iSq (dVar 1)) [4] (gN 4) (bdVal (dOp ltD (dVar 4) (dC (.int 0)))) (dVar 4))) (sSeq (sIf (bdVal (dOp gtD (dCall1 lenD (dSee 3)) (dC (.int 0)))) (sRet (dOp eqD (dVar 2) (dTup (lCons (dC (.str "BadExponent")) (lCons (dIxv 3 (dC (.int 0))) lNil))))) sNil) (sSeq (sIf (bdVal (dOp gtD (dCall1 sumD (dSee 1)) (dC (.int 32)))) (sRet (dOp eqD (dVar 2) (dTup (lCons (dC (.str "TooLarge")) (lCons (dCall1 sumD (dSee 1)) lNil))))) sNil) (sRet (dAnd (dOp eqD (dVar 2) (dTup (lCons (dC (.str "told")) (lCons (dCallU f__law_before (lenIs 2 (aV (dVar 0) (aV (dVar 1) aNil)))) lNil)))) (dCallU f__law_int (lenIs 1 (aV (dIxv 2 (dC (.int 1))) aNil)))))))))
def f__law_placed : Fn := runF 5 b__law_placed
theorem d__law_placed {P : Program} {w : World} {K : PySem.W.Frag} {mg : Str → Option Value} {base : Heap} {fd : FuncData} (F : Fe K) (g : Glo K mg) (d__law_ask : DefP P w K mg base ⟨cm K, none⟩ "_law_ask" 7 3 f__law_ask) (d__law_before : DefP P w K mg base ⟨cm K, none⟩ "_law_before" 1 2 f__law_before) (d__law_int : DefP P w K mg base ⟨cm K, none⟩ "_law_int" 1 1 f__law_int) (Fd : FunD K "_law_placed" "_law_placed" (defArgs s__law_placed) (defBody s__law_placed) (defScope s__law_placed) [] [] (He.ga K "_law_placed") fd) : DefP P w K mg base ⟨cm K, none⟩ "_law_placed" 8 2 f__law_placed := by
  have hrc : (⟨cm K, none⟩ : RC K).hx = none := rfl
  refine ⟨_, fd, ["ways", "exps"], [], [], fnU (N := ["ways", "exps", "answer", "below", "power"]) (ps := ["ways", "exps"]) (k := 7) (F := b__law_placed) hrc Fd sc__law_placed (fun cdv A outer s H E en W hr tk => ?_), g.d__law_placed, Fd.kp, Fd.bindsN fun _ _ _ _ _ _ us hl => match us, hl with | [_, _], _ => rfl, .nil, rfl, rfl⟩
  have hu : (A.deeper (envOfC "_law_placed" (defScope s__law_placed) s.heap.objs.size (He.ga K "_law_placed") cdv)).units + 64 < cLine := by have := hr.un; omega
  exact qs_cons (q_set (i := 2) sc__law_placed.nd (pu_fn tk ⟨d__law_ask⟩ (hr.mono (by decide)) (al_v pu_int (al_v (pu_var 1) (al_v pu_int al_nil))))) (qs_cons (q_if (PW.pt (pw_or' (pb_cmp op_ltD (pu_callP c_len (.blt rfl g.n_len rfl (by decide) rfl) (pp_var 1)) pu_int) (pw_or1' (pb_cmp op_gtD (pu_callP c_len (.blt rfl g.n_len rfl (by decide) rfl) (pp_var 1)) pu_int)))) (qs_one (q_ret (pu_cmp (op_eqD' hu) (pu_var 2) (pu_tup (pl_cons pu_str (pl_cons (pu_callP c_len (.blt rfl g.n_len rfl (by decide) rfl) (pp_var 1)) pl_nil)))))) qs_nil) (qs_cons (q_setLc (i := 3) (own := [("power", 4)]) rfl sc__law_placed.nd (sw_true rfl rfl rfl rfl) (w_seq (pu_var 1)) (blkOk_by (by kernel_rfl)) (fun en s H C cl fp => g_name (i := 4) sc__law_placed.nd) (fun en s H C cl fp => pts_one' (pb_cmp op_ltD (pu_var 4) pu_int)) (fun en s H C cl fp => pu_var 4)) (qs_cons (q_if (pb_cmp op_gtD (pu_callP c_len (.blt rfl g.n_len rfl (by decide) rfl) (pp_var 3)) pu_int) (qs_one (q_ret (pu_cmp (op_eqD' hu) (pu_var 2) (pu_tup (pl_cons pu_str (pl_cons (pu_ixv 3 pu_int) pl_nil)))))) qs_nil) (qs_cons (q_if (pb_cmp op_gtD (pu_callP (c_sum rfl) (.blt rfl g.n_sum rfl (by decide) rfl) (pp_var 1)) pu_int) (qs_one (q_ret (pu_cmp (op_eqD' hu) (pu_var 2) (pu_tup (pl_cons pu_str (pl_cons (pu_callP (c_sum rfl) (.blt rfl g.n_sum rfl (by decide) rfl) (pp_var 1)) pl_nil)))))) qs_nil) (qs_one (q_ret (pu_and (pu_cmp (op_eqD' hu) (pu_var 2) (pu_tup (pl_cons pu_str (pl_cons (pu_fn tk ⟨d__law_before⟩ (hr.mono (by decide)) (al_v (pu_var 0) (al_v (pu_var 1) al_nil))) pl_nil)))) (pu_one (op := .Add) (pu_fn tk ⟨d__law_int⟩ (hr.mono (by decide)) (al_v (pu_ixv 2 pu_int) al_nil))))))))))
abbrev s__law_bent : Stmt := top 28
theorem sc__law_bent : FnScope ["pool", "exps", "row", "place", "kind", "k"] ["pool", "exps"] (defScope s__law_bent) := ⟨rfl, rfl, rfl, by decide +kernel, rfl, by decide +kernel, by decide +kernel⟩
def b__law_bent : DS := sSeq (sSetF 2 (dCall1 lstD (dSee 1))) (sSeq (sSet 3 (dCallU f__law_draw (lenIs 2 (aS 0 (aV (dCall1 lenD (dSee 2)) aNil))))) (sSeq (sSet 4 (dCallU f__law_draw (lenIs 2 (aS 0 (aV (dC (.int 6)) aNil))))) (sSeq (sIf (bdVal (dOp eqD (dVar 4) (dC (.int 0)))) (sPut 2 (dOp subD (dNeg (dC (.int 1))) (dCallU f__law_draw (lenIs 2 (aS 0 (aV (dC (.int 3)) aNil))))) (dVar 3)) (sIf (bdVal (dOp eqD (dVar 4) (dC (.int 1)))) (sPut 2 (dOp addD (dOp subD (dOp addD (dIxv 2 (dVar 3)) (dC (.int 33))) (dCall1 sumD (dSee 2))) (dCallU f__law_draw (lenIs 2 (aS 0 (aV (dC (.int 3)) aNil))))) (dVar 3)) (sIf (bdVal (dOp eqD (dVar 4) (dC (.int 2)))) (sPut 2 (dOp subD (dOp addD (dIxv 2 (dVar 3)) (dC (.int 32))) (dCall1 sumD (dSee 2))) (dVar 3)) (sIf (bdVal (dOp eqD (dVar 4) (dC (.int 3)))) (sSet 2 (dOp addD (dVar 2) (dLc (iR1 (lCons (dOp subD (dC (.int 13)) (dCall1 lenD (dSee 2))) lNil)) [5] (gN 5) bdYes (dC (.int 0))))) (sIf (bdVal (dOp eqD (dVar 4) (dC (.int 4)))) (sPut 2 (dOp ixD (dTup (lCons (dOp powD (dC (.int 10)) (dC (.int 30))) (lCons (dNeg (dOp powD (dC (.int 10)) (dC (.int 30)))) lNil))) (dCallU f__law_draw (lenIs 2 (aS 0 (aV (dC (.int 2)) aNil))))) (dVar 3)) (sSet 2 (dOp addD (dSl (dVar 2) oNone (oSome (dVar 3)) slLD) (dLc (iR1 (lCons (dCallU f__law_draw (lenIs 2 (aS 0 (aV (dC (.int 14)) aNil)))) lNil)) [5] (gN 5) bdYes (dNeg (dC (.int 2))))))))))) (sRet (dCall1 tupD (dSee 2))))))
def f__law_bent : Fn := runF 6 b__law_bent
theorem d__law_bent {P : Program} {w : World} {K : PySem.W.Frag} {mg : Str → Option Value} {base : Heap} {fd : FuncData} (F : Fe K) (g : Glo K mg) (d__law_draw : DefP P w K mg base ⟨cm K, none⟩ "_law_draw" 1 2 f__law_draw) (Fd : FunD K "_law_bent" "_law_bent" (defArgs s__law_bent) (defBody s__law_bent) (defScope s__law_bent) [] [] (He.ga K "_law_bent") fd) : DefP P w K mg base ⟨cm K, none⟩ "_law_bent" 2 2 f__law_bent := by
  have hrc : (⟨cm K, none⟩ : RC K).hx = none := rfl
  refine ⟨_, fd, ["pool", "exps"], [], [], fnU (N := ["pool", "exps", "row", "place", "kind", "k"]) (ps := ["pool", "exps"]) (k := 1) (F := b__law_bent) hrc Fd sc__law_bent (fun cdv A outer s H E en W hr tk => ?_), g.d__law_bent, Fd.kp, Fd.bindsN fun _ _ _ _ _ _ us hl => match us, hl with | [_, _], _ => rfl, .nil, rfl, rfl⟩
  have hu : (A.deeper (envOfC "_law_bent" (defScope s__law_bent) s.heap.objs.size (He.ga K "_law_bent") cdv)).units + 64 < cLine := by have := hr.un; omega
  exact qs_cons (q_setF (i := 2) sc__law_bent.nd (pf_callF c_list (.ty rfl g.n_list rfl (by decide) rfl) (pp_var 1))) (qs_cons (q_set (i := 3) sc__law_bent.nd (pu_fn tk ⟨d__law_draw⟩ (hr.mono (by decide)) (al_s 0 (al_v (pu_callP c_len (.blt rfl g.n_len rfl (by decide) rfl) (pp_var 2)) al_nil)))) (qs_cons (q_set (i := 4) sc__law_bent.nd (pu_fn tk ⟨d__law_draw⟩ (hr.mono (by decide)) (al_s 0 (al_v pu_int al_nil)))) (qs_cons (q_if (pb_cmp (op_eqD' hu) (pu_var 4) pu_int) (qs_one (q_put 2 (pu_op op_subD (pu_neg pu_int) (pu_fn tk ⟨d__law_draw⟩ (hr.mono (by decide)) (al_s 0 (al_v pu_int al_nil)))) (pu_var 3))) (qs_one (q_if (pb_cmp (op_eqD' hu) (pu_var 4) pu_int) (qs_one (q_put 2 (pu_op op_addD (pu_op op_subD (pu_op op_addD (pu_ixv 2 (pu_var 3)) pu_int) (pu_callP (c_sum rfl) (.blt rfl g.n_sum rfl (by decide) rfl) (pp_var 2))) (pu_fn tk ⟨d__law_draw⟩ (hr.mono (by decide)) (al_s 0 (al_v pu_int al_nil)))) (pu_var 3))) (qs_one (q_if (pb_cmp (op_eqD' hu) (pu_var 4) pu_int) (qs_one (q_put 2 (pu_op op_subD (pu_op op_addD (pu_ixv 2 (pu_var 3)) pu_int) (pu_callP (c_sum rfl) (.blt rfl g.n_sum rfl (by decide) rfl) (pp_var 2))) (pu_var 3))) (qs_one (q_if (pb_cmp (op_eqD' hu) (pu_var 4) pu_int) (qs_one (q_set (i := 2) sc__law_bent.nd (pu_op op_addD (pu_var 2) (pu_fresh (pf_lc (own := [("k", 5)]) rfl sc__law_bent.nd (w_range1 g.n_range (pl_cons (pu_op op_subD pu_int (pu_callP c_len (.blt rfl g.n_len rfl (by decide) rfl) (pp_var 2))) pl_nil)) (blkOk_by (by kernel_rfl)) (fun en s H C cl fp => g_name (i := 5) sc__law_bent.nd) (fun en s H C cl fp => pts_nil') (fun en s H C cl fp => pu_int)))))) (qs_one (q_if (pb_cmp (op_eqD' hu) (pu_var 4) pu_int) (qs_one (q_put 2 (pu_ix (pu_tup (pl_cons (pu_op op_powD pu_int pu_int) (pl_cons (pu_neg (pu_op op_powD pu_int pu_int)) pl_nil))) (pu_fn tk ⟨d__law_draw⟩ (hr.mono (by decide)) (al_s 0 (al_v pu_int al_nil)))) (pu_var 3))) (qs_one (q_set (i := 2) sc__law_bent.nd (pu_op op_addD (pu_fresh (pf_sl (pu_var 2) pu_onone (pu_osome (pu_var 3)))) (pu_fresh (pf_lc (own := [("k", 5)]) rfl sc__law_bent.nd (w_range1 g.n_range (pl_cons (pu_fn tk ⟨d__law_draw⟩ (hr.mono (by decide)) (al_s 0 (al_v pu_int al_nil))) pl_nil)) (blkOk_by (by kernel_rfl)) (fun en s H C cl fp => g_name (i := 5) sc__law_bent.nd) (fun en s H C cl fp => pts_nil') (fun en s H C cl fp => pu_neg pu_int))))))))))))))) (qs_one (q_ret (pu_callP c_tuple (.ty rfl g.n_tuple rfl (by decide) rfl) (pp_var 2)))))))
abbrev s_law : Stmt := top 29
theorem sc_law : FnScope ["script", "pool", "ways", "letters", "degree", "pairs", "turn", "exps", "bent", "twice", "told", "bad", "less", "mode", "pair"] ["script"] (defScope s_law) := ⟨rfl, rfl, rfl, by decide +kernel, rfl, by decide +kernel, by decide +kernel⟩
def b_law : DS := sSeq (sSetF 1 (dCallF f__law_pool (lenIs 1 (aV (dVar 0) aNil)))) (sSeq (sSetF 2 (dCallF f__law_ways (lenIs 0 aNil))) (sSeq (sSet 3 (dOp addD (dC (.int 1)) (dCallU f__law_draw (lenIs 2 (aS 1 (aV (dC (.int 4)) aNil)))))) (sSeq (sSet 4 (dCallU f__law_draw (lenIs 2 (aS 1 (aV (dC (.int 9)) aNil))))) (sSeq (sIf (bdVal (dOp eqD (dCallU f__law_draw (lenIs 2 (aS 1 (aV (dC (.int 3)) aNil)))) (dC (.int 0)))) (sSeq (sSet 3 (dOp addD (dC (.int 1)) (dCallU f__law_draw (lenIs 2 (aS 1 (aV (dC (.int 12)) aNil)))))) (sSet 4 (dCallU f__law_draw (lenIs 2 (aS 1 (aV (dC (.int 33)) aNil)))))) sNil) (sSeq (sSetF 5 (dLst (lCons (dTup (lCons (dVar 3) (lCons (dVar 4) lNil))) (lCons (dTup (lCons (dOp addD (dC (.int 1)) (dCallU f__law_draw (lenIs 2 (aS 1 (aV (dC (.int 12)) aNil))))) (lCons (dCallU f__law_draw (lenIs 2 (aS 1 (aV (dC (.int 33)) aNil)))) lNil))) (lCons (dTup (lCons (dOp addD (dC (.int 1)) (dCallU f__law_draw (lenIs 2 (aS 1 (aV (dC (.int 12)) aNil))))) (lCons (dC (.int 0)) lNil))) (lCons (dTup (lCons (dC (.int 1)) (lCons (dC (.int 32)) lNil))) lNil)))))) (sSeq (sDrop (dApp 5 (dOp ixD (dLst (lCons (dTup (lCons (dC (.int 4)) (lCons (dC (.int 16)) lNil))) (lCons (dTup (lCons (dC (.int 4)) (lCons (dC (.int 17)) lNil))) (lCons (dTup (lCons (dC (.int 5)) (lCons (dC (.int 9)) lNil))) (lCons (dTup (lCons (dC (.int 5)) (lCons (dC (.int 10)) lNil))) (lCons (dTup (lCons (dC (.int 11)) (lCons (dC (.int 4)) lNil))) (lCons (dTup (lCons (dC (.int 12)) (lCons (dC (.int 3)) lNil))) (lCons (dTup (lCons (dC (.int 12)) (lCons (dC (.int 32)) lNil))) (lCons (dTup (lCons (dC (.int 3)) (lCons (dC (.int 32)) lNil))) lNil))))))))) (dCallU f__law_draw (lenIs 2 (aS 1 (aV (dC (.int 8)) aNil))))))) (sSeq (sIf (bdNot (bdVal (dCall1 allD (dLc (iSq (dVar 5)) [14] (gN 14) bdYes (dCallU f__law_listed (lenIs 3 (aV (dVar 2) (aV (dIxv 14 (dC (.int 0))) (aV (dIxv 14 (dC (.int 1))) aNil))))))))) (sRet (dC (.bl false))) sNil) (sSeq (sFor (iR1 (lCons (dC (.int 4)) lNil)) (gN 6) (sSeq (sSet 7 (dCallU f__law_exps (lenIs 3 (aS 1 (aV (dVar 3) (aV (dVar 4) aNil)))))) (sSeq (sSet 8 (dCallU f__law_bent (lenIs 2 (aS 1 (aV (dVar 7) aNil))))) (sSeq (sSet 9 (dIf (bdVal (dOp gtD (dCall1 lenD (dSee 8)) (dC (.int 0)))) (dCallU f__law_bent (lenIs 2 (aS 1 (aV (dVar 8) aNil)))) (dVar 8))) (sSeq (sIf (bdOr (bdNot (bdVal (dCallU f__law_placed (lenIs 2 (aV (dVar 2) (aV (dVar 7) aNil)))))) (bdOr (bdNot (bdVal (dCallU f__law_placed (lenIs 2 (aV (dVar 2) (aV (dVar 8) aNil)))))) (bdNot (bdVal (dCallU f__law_placed (lenIs 2 (aV (dVar 2) (aV (dVar 9) aNil)))))))) (sRet (dC (.bl false))) sNil) (sIf (bdNot (bdVal (dCallU f__law_placed (lenIs 2 (aV (dVar 2) (aV (dCallU f__law_exps (lenIs 3 (aS 1 (aV (dOp addD (dC (.int 1)) (dCallU f__law_draw (lenIs 2 (aS 1 (aV (dC (.int 12)) aNil))))) (aV (dCallU f__law_draw (lenIs 2 (aS 1 (aV (dC (.int 33)) aNil)))) aNil))))) aNil)))))) (sRet (dC (.bl false))) sNil)))))) (sSeq (sSet 10 (dCallU f__law_ask (lenIs 3 (aV (dC (.int 0)) (aV (dVar 3) (aV (dVar 4) aNil)))))) (sSeq (sIf (bdAnd (bdVal (dOp eqD (dIxv 10 (dC (.int 0))) (dC (.str "told")))) (bdVal (dOp neD (dOp ixD (dIxv 10 (dC (.int 1))) (dCallU f__law_before (lenIs 2 (aV (dVar 2) (aV (dVar 7) aNil))))) (dVar 7)))) (sRet (dC (.bl false))) sNil) (sSeq (sSet 11 (dOp ixD (dTup (lCons (dC (.int 0)) (lCons (dC (.int 13)) (lCons (dNeg (dC (.int 1))) (lCons (dOp powD (dC (.int 10)) (dC (.int 30))) lNil))))) (dCallU f__law_draw (lenIs 2 (aS 1 (aV (dC (.int 4)) aNil)))))) (sSeq (sSet 12 (dOp ixD (dTup (lCons (dNeg (dC (.int 1))) (lCons (dC (.int 33)) (lCons (dNeg (dOp powD (dC (.int 10)) (dC (.int 30)))) (lCons (dC (.int 600)) lNil))))) (dCallU f__law_draw (lenIs 2 (aS 1 (aV (dC (.int 4)) aNil)))))) (sSeq (sFor (iSq (dTup (lCons (dC (.int 0)) (lCons (dC (.int 1)) lNil)))) (gN 13) (sSeq (sIf (bdOr (bdVal (dOp neD (dCallU f__law_ask (lenIs 3 (aV (dVar 13) (aV (dVar 11) (aV (dVar 4) aNil))))) (dTup (lCons (dC (.str "BadCount")) (lCons (dVar 11) lNil))))) (bdVal (dOp neD (dCallU f__law_ask (lenIs 3 (aV (dVar 13) (aV (dVar 11) (aV (dVar 12) aNil))))) (dTup (lCons (dC (.str "BadCount")) (lCons (dVar 11) lNil)))))) (sRet (dC (.bl false))) sNil) (sIf (bdVal (dOp neD (dCallU f__law_ask (lenIs 3 (aV (dVar 13) (aV (dVar 3) (aV (dVar 12) aNil))))) (dTup (lCons (dC (.str "BadCount")) (lCons (dVar 12) lNil))))) (sRet (dC (.bl false))) sNil))) (sRet (dOp eqD (dCallU f__law_ask (lenIs 3 (aV (dC (.int 2)) (aV (dTup lNil) (aV (dC (.int 0)) aNil))))) (dTup (lCons (dC (.str "BadCount")) (lCons (dC (.int 0)) lNil))))))))))))))))))
def f_law : Fn := runF 15 b_law
theorem t_law {P : Program} {w : World} {K : PySem.W.Frag} {mg : Str → Option Value} {base : Heap} {fd : FuncData} (F : Fe K) (g : Glo K mg) (d__law_ask : DefP P w K mg base ⟨cm K, none⟩ "_law_ask" 7 3 f__law_ask) (d__law_before : DefP P w K mg base ⟨cm K, none⟩ "_law_before" 1 2 f__law_before) (d__law_bent : DefP P w K mg base ⟨cm K, none⟩ "_law_bent" 2 2 f__law_bent) (d__law_draw : DefP P w K mg base ⟨cm K, none⟩ "_law_draw" 1 2 f__law_draw) (d__law_exps : DefP P w K mg base ⟨cm K, none⟩ "_law_exps" 2 3 f__law_exps) (d__law_listed : DefP P w K mg base ⟨cm K, none⟩ "_law_listed" 8 3 f__law_listed) (d__law_placed : DefP P w K mg base ⟨cm K, none⟩ "_law_placed" 8 2 f__law_placed) (d__law_pool : DefP P w K mg base ⟨cm K, none⟩ "_law_pool" 1 1 f__law_pool) (d__law_ways : DefP P w K mg base ⟨cm K, none⟩ "_law_ways" 1 0 f__law_ways) (Fd : FunD K "law" "law" (defArgs s_law) (defBody s_law) (defScope s_law) [] [] (He.ga K "law") fd) : FnOk P w K mg base (L2N.CX P w) 9 (He.ga K "law") fd ["script"] (fun vs H Q E => vs.length = 1 ∧ spU (K := K) ⟨cm K, none⟩ f_law vs H Q E) := by
  have hrc : (⟨cm K, none⟩ : RC K).hx = none := rfl
  refine fnU (N := ["script", "pool", "ways", "letters", "degree", "pairs", "turn", "exps", "bent", "twice", "told", "bad", "less", "mode", "pair"]) (ps := ["script"]) (k := 8) (F := b_law) hrc Fd sc_law (fun cdv A outer s H E en W hr tk => ?_)
  have hu : (A.deeper (envOfC "law" (defScope s_law) s.heap.objs.size (He.ga K "law") cdv)).units + 64 < cLine := by have := hr.un; omega
  exact qs_cons (q_setF (i := 1) sc_law.nd (pf_fn tk ⟨d__law_pool⟩ (hr.mono (by decide)) (al_v (pu_var 0) al_nil))) (qs_cons (q_setF (i := 2) sc_law.nd (pf_fn0 tk ⟨d__law_ways⟩ (hr.mono (by decide)))) (qs_cons (q_set (i := 3) sc_law.nd (pu_op op_addD pu_int (pu_fn tk ⟨d__law_draw⟩ (hr.mono (by decide)) (al_s 1 (al_v pu_int al_nil))))) (qs_cons (q_set (i := 4) sc_law.nd (pu_fn tk ⟨d__law_draw⟩ (hr.mono (by decide)) (al_s 1 (al_v pu_int al_nil)))) (qs_cons (q_if (pb_cmp (op_eqD' hu) (pu_fn tk ⟨d__law_draw⟩ (hr.mono (by decide)) (al_s 1 (al_v pu_int al_nil))) pu_int) (qs_cons (q_set (i := 3) sc_law.nd (pu_op op_addD pu_int (pu_fn tk ⟨d__law_draw⟩ (hr.mono (by decide)) (al_s 1 (al_v pu_int al_nil))))) (qs_one (q_set (i := 4) sc_law.nd (pu_fn tk ⟨d__law_draw⟩ (hr.mono (by decide)) (al_s 1 (al_v pu_int al_nil)))))) qs_nil) (qs_cons (q_setF (i := 5) sc_law.nd (pf_lst (pl_cons (pu_tup (pl_cons (pu_var 3) (pl_cons (pu_var 4) pl_nil))) (pl_cons (pu_tup (pl_cons (pu_op op_addD pu_int (pu_fn tk ⟨d__law_draw⟩ (hr.mono (by decide)) (al_s 1 (al_v pu_int al_nil)))) (pl_cons (pu_fn tk ⟨d__law_draw⟩ (hr.mono (by decide)) (al_s 1 (al_v pu_int al_nil))) pl_nil))) (pl_cons (pu_tup (pl_cons (pu_op op_addD pu_int (pu_fn tk ⟨d__law_draw⟩ (hr.mono (by decide)) (al_s 1 (al_v pu_int al_nil)))) (pl_cons pu_int pl_nil))) (pl_cons (pu_tup (pl_cons pu_int (pl_cons pu_int pl_nil))) pl_nil)))))) (qs_cons (q_expr (pu_app 5 (pu_ix (pu_fresh (pf_lst (pl_cons (pu_tup (pl_cons pu_int (pl_cons pu_int pl_nil))) (pl_cons (pu_tup (pl_cons pu_int (pl_cons pu_int pl_nil))) (pl_cons (pu_tup (pl_cons pu_int (pl_cons pu_int pl_nil))) (pl_cons (pu_tup (pl_cons pu_int (pl_cons pu_int pl_nil))) (pl_cons (pu_tup (pl_cons pu_int (pl_cons pu_int pl_nil))) (pl_cons (pu_tup (pl_cons pu_int (pl_cons pu_int pl_nil))) (pl_cons (pu_tup (pl_cons pu_int (pl_cons pu_int pl_nil))) (pl_cons (pu_tup (pl_cons pu_int (pl_cons pu_int pl_nil))) pl_nil)))))))))) (pu_fn tk ⟨d__law_draw⟩ (hr.mono (by decide)) (al_s 1 (al_v pu_int al_nil)))))) (qs_cons (q_if (pb_not (pb_val (pu_callP (c_all rfl) (.blt rfl g.n_all rfl (by decide) rfl) (pp_of (pu_fresh (pf_lc (own := [("pair", 14)]) rfl sc_law.nd (w_seq (pu_var 5)) (blkOk_by (by kernel_rfl)) (fun en s H C cl fp => g_name (i := 14) sc_law.nd) (fun en s H C cl fp => pts_nil') (fun en s H C cl fp => pu_fn takesF ⟨d__law_listed⟩ (hr.mono (by decide)) (al_v (pu_var 2) (al_v (pu_ixv 14 pu_int) (al_v (pu_ixv 14 pu_int) al_nil)))))))))) (qs_one (q_ret pu_bl)) qs_nil) (qs_cons (q_for PassesOwn.leaving rfl (w_range1 g.n_range (pl_cons pu_int pl_nil)) (g_name (i := 6) sc_law.nd) (qs_cons (q_set (i := 7) sc_law.nd (pu_fn tk ⟨d__law_exps⟩ (hr.mono (by decide)) (al_s 1 (al_v (pu_var 3) (al_v (pu_var 4) al_nil))))) (qs_cons (q_set (i := 8) sc_law.nd (pu_fn tk ⟨d__law_bent⟩ (hr.mono (by decide)) (al_s 1 (al_v (pu_var 7) al_nil)))) (qs_cons (q_set (i := 9) sc_law.nd (pu_if (pb_cmp op_gtD (pu_callP c_len (.blt rfl g.n_len rfl (by decide) rfl) (pp_var 8)) pu_int) (pu_fn tk ⟨d__law_bent⟩ (hr.mono (by decide)) (al_s 1 (al_v (pu_var 8) al_nil))) (pu_var 8))) (qs_cons (q_if (PW.pt (pw_or' (pb_not (pb_val (pu_fn tk ⟨d__law_placed⟩ (hr.mono (by decide)) (al_v (pu_var 2) (al_v (pu_var 7) al_nil))))) (pw_or' (pb_not (pb_val (pu_fn tk ⟨d__law_placed⟩ (hr.mono (by decide)) (al_v (pu_var 2) (al_v (pu_var 8) al_nil))))) (pw_or1' (pb_not (pb_val (pu_fn tk ⟨d__law_placed⟩ (hr.mono (by decide)) (al_v (pu_var 2) (al_v (pu_var 9) al_nil))))))))) (qs_one (q_ret pu_bl)) qs_nil) (qs_one (q_if (pb_not (pb_val (pu_fn tk ⟨d__law_placed⟩ (hr.mono (by decide)) (al_v (pu_var 2) (al_v (pu_fn tk ⟨d__law_exps⟩ (hr.mono (by decide)) (al_s 1 (al_v (pu_op op_addD pu_int (pu_fn tk ⟨d__law_draw⟩ (hr.mono (by decide)) (al_s 1 (al_v pu_int al_nil)))) (al_v (pu_fn tk ⟨d__law_draw⟩ (hr.mono (by decide)) (al_s 1 (al_v pu_int al_nil))) al_nil)))) al_nil))))) (qs_one (q_ret pu_bl)) qs_nil))))))) (qs_cons (q_set (i := 10) sc_law.nd (pu_fn tk ⟨d__law_ask⟩ (hr.mono (by decide)) (al_v pu_int (al_v (pu_var 3) (al_v (pu_var 4) al_nil))))) (qs_cons (q_if (PW.pt (pw_and' (pb_cmp (op_eqD' hu) (pu_ixv 10 pu_int) pu_str) (pw_and1' (pb_cmp (op_neD' hu) (pu_ix (pu_ixv 10 pu_int) (pu_fn tk ⟨d__law_before⟩ (hr.mono (by decide)) (al_v (pu_var 2) (al_v (pu_var 7) al_nil)))) (pu_var 7))))) (qs_one (q_ret pu_bl)) qs_nil) (qs_cons (q_set (i := 11) sc_law.nd (pu_ix (pu_tup (pl_cons pu_int (pl_cons pu_int (pl_cons (pu_neg pu_int) (pl_cons (pu_op op_powD pu_int pu_int) pl_nil))))) (pu_fn tk ⟨d__law_draw⟩ (hr.mono (by decide)) (al_s 1 (al_v pu_int al_nil))))) (qs_cons (q_set (i := 12) sc_law.nd (pu_ix (pu_tup (pl_cons (pu_neg pu_int) (pl_cons pu_int (pl_cons (pu_neg (pu_op op_powD pu_int pu_int)) (pl_cons pu_int pl_nil))))) (pu_fn tk ⟨d__law_draw⟩ (hr.mono (by decide)) (al_s 1 (al_v pu_int al_nil))))) (qs_cons (q_for PassesOwn.leaving rfl (w_seq (pu_tup (pl_cons pu_int (pl_cons pu_int pl_nil)))) (g_name (i := 13) sc_law.nd) (qs_cons (q_if (PW.pt (pw_or' (pb_cmp (op_neD' hu) (pu_fn tk ⟨d__law_ask⟩ (hr.mono (by decide)) (al_v (pu_var 13) (al_v (pu_var 11) (al_v (pu_var 4) al_nil)))) (pu_tup (pl_cons pu_str (pl_cons (pu_var 11) pl_nil)))) (pw_or1' (pb_cmp (op_neD' hu) (pu_fn tk ⟨d__law_ask⟩ (hr.mono (by decide)) (al_v (pu_var 13) (al_v (pu_var 11) (al_v (pu_var 12) al_nil)))) (pu_tup (pl_cons pu_str (pl_cons (pu_var 11) pl_nil))))))) (qs_one (q_ret pu_bl)) qs_nil) (qs_one (q_if (pb_cmp (op_neD' hu) (pu_fn tk ⟨d__law_ask⟩ (hr.mono (by decide)) (al_v (pu_var 13) (al_v (pu_var 3) (al_v (pu_var 12) al_nil)))) (pu_tup (pl_cons pu_str (pl_cons (pu_var 12) pl_nil)))) (qs_one (q_ret pu_bl)) qs_nil)))) (qs_one (q_ret (pu_cmp (op_eqD' hu) (pu_fn tk ⟨d__law_ask⟩ (hr.mono (by decide)) (al_v pu_int (al_v (pu_tup pl_nil) (al_v pu_int al_nil)))) (pu_tup (pl_cons pu_str (pl_cons pu_int pl_nil)))))))))))))))))))
end Q
/-! M93m: the mathematics of monomials, no program in sight. -/
namespace M93
/-- how many monomials: n letters, degree d -/
def wy : Nat → Nat → Nat
  | 0, 0 => 1
  | 0, _ + 1 => 0
  | n + 1, 0 => wy n 0
  | n + 1, d + 1 => wy (n + 1) d + wy n (d + 1)
/-- the sum below s -/
def cum (n : Nat) : Nat → Nat
  | 0 => 0
  | s + 1 => cum n s + wy n s
theorem cum_succ (n : Nat) : ∀ s, cum n (s + 1) = wy (n + 1) s
  | 0 => by simp [cum, wy]
  | s + 1 => by rw [cum, cum_succ n s, wy]
theorem wy_pos : ∀ n d, 1 ≤ wy (n + 1) d
  | 0, 0 => by simp [wy]
  | n + 1, 0 => by rw [wy]; exact wy_pos n 0
  | n, d + 1 => by have := wy_pos n d; rw [wy]; omega
/-- the monomials, the lexicographically greatest first -/
def mon : Nat → Nat → List (List Nat)
  | 0, 0 => [[]]
  | 0, _ + 1 => []
  | n + 1, d => (List.range (d + 1)).flatMap fun i => (mon n i).map ((d - i) :: ·)
theorem len_flat {α : Type} (f : Nat → List α) (n : Nat) (h : ∀ i, (f i).length = wy n i) : ∀ s, ((List.range s).flatMap f).length = cum n s
  | 0 => rfl
  | s + 1 => by
    rw [List.range_succ, List.flatMap_append, List.length_append, len_flat f n h s, cum]
    simp [h]
theorem mon_length : ∀ n d, (mon n d).length = wy n d
  | 0, 0 => by simp [mon, wy]
  | 0, _ + 1 => by simp [mon, wy]
  | n + 1, d => by
    rw [mon, len_flat _ n (fun i => by rw [List.length_map]; exact mon_length n i), cum_succ]
theorem mon_mem : ∀ n d x, x ∈ mon n d → x.length = n ∧ x.sum = d
  | 0, 0, x, h => by simp [mon] at h; subst h; exact ⟨rfl, rfl⟩
  | 0, _ + 1, x, h => by simp [mon] at h
  | n + 1, d, x, h => by
    rw [mon, List.mem_flatMap] at h
    obtain ⟨i, hi, hx⟩ := h
    obtain ⟨y, hy, rfl⟩ := List.mem_map.mp hx
    obtain ⟨h1, h2⟩ := mon_mem n i y hy
    rw [List.mem_range] at hi
    refine ⟨by simp [h1], ?_⟩
    rw [List.sum_cons, h2]
    omega
/-- the place -/
def pl : List Nat → Nat → Nat
  | [], _ => 0
  | e :: t, r => cum t.length (r - e) + pl t (r - e)
theorem mon_at : ∀ (x : List Nat), (mon x.length x.sum)[pl x x.sum]? = some x
  | [] => rfl
  | e :: t => by
    have ih := mon_at t
    show (mon (t.length + 1) (e :: t).sum)[cum t.length ((e :: t).sum - e) + pl t ((e :: t).sum - e)]? = _
    have hs : (e :: t).sum - e = t.sum := by rw [List.sum_cons]; omega
    rw [hs, mon]
    have hr : List.range ((e :: t).sum + 1) = List.range t.sum ++ (t.sum :: (List.range e).map (· + (t.sum + 1))) := by
      have : (e :: t).sum + 1 = t.sum + (1 + e) := by rw [List.sum_cons]; omega
      rw [this, List.range_add, List.range_add]
      simp [Nat.add_comm, Nat.add_left_comm]
    rw [hr, List.flatMap_append, List.getElem?_append_right (by rw [len_flat _ t.length (fun i => by rw [List.length_map]; exact mon_length _ i)]; omega),
      len_flat _ t.length (fun i => by rw [List.length_map]; exact mon_length _ i), Nat.add_sub_cancel_left, List.flatMap_cons]
    have hl : pl t t.sum < (mon t.length t.sum).length := (List.getElem?_eq_some_iff.mp ih).1
    rw [List.getElem?_append_left (by rw [List.length_map]; exact hl), List.getElem?_map, ih]
    simp
/-! ### the table by rows -/
def scan : Nat → List Nat → List Nat
  | _, [] => []
  | a, x :: xs => (a + x) :: scan (a + x) xs
def wyL : Nat → List Nat
  | 0 => 1 :: List.replicate 32 0
  | n + 1 => scan 0 (wyL n)
theorem scan_get : ∀ (l : List Nat) (a : Nat) (f : Nat → Nat) (k : Nat), (∀ i, i < l.length → l[i]? = some (f i)) → ∀ i, i < l.length → (scan a l)[i]? = some (a + ((List.range (i + 1)).map f).sum)
  | [], _, _, _, _, _, h => by simp at h
  | x :: l, a, f, k, hf, 0, _ => by
    have := hf 0 (by simp)
    simp at this
    subst this
    simp [scan]
  | x :: l, a, f, k, hf, i + 1, h => by
    have h0 := hf 0 (by simp)
    simp at h0
    have ih := scan_get l (a + x) (fun j => f (j + 1)) k (fun j hj => by have := hf (j + 1) (by simpa using hj); simpa using this) i (by simpa using h)
    rw [scan]
    rw [List.getElem?_cons_succ, ih, List.range_succ_eq_map (n := i + 1), List.map_cons, List.sum_cons, List.map_map]
    subst h0
    congr 1
    simp only [Function.comp_def, Nat.succ_eq_add_one]
    omega
theorem scan_len : ∀ (l : List Nat) (a : Nat), (scan a l).length = l.length
  | [], _ => rfl
  | x :: l, a => by rw [scan, List.length_cons, List.length_cons, scan_len l]
theorem wyL_len : ∀ n, (wyL n).length = 33
  | 0 => rfl
  | n + 1 => by rw [wyL, scan_len, wyL_len n]
theorem cum_sum (n : Nat) : ∀ s, ((List.range s).map (wy n)).sum = cum n s
  | 0 => rfl
  | s + 1 => by
    rw [List.range_succ, List.map_append, List.sum_append, cum_sum n s, cum]
    simp
theorem wyL_get : ∀ n d, d < 33 → (wyL n)[d]? = some (wy n d)
  | 0, 0, _ => by simp [wyL, wy]
  | 0, d + 1, h => by
    rw [wyL, List.getElem?_cons_succ, List.getElem?_replicate, if_pos (by omega)]
    simp [wy]
  | n + 1, d, h => by
    rw [wyL, scan_get (wyL n) 0 (wy n) 0 (fun i hi => wyL_get n i (by rw [wyL_len] at hi; exact hi)) d (by rw [wyL_len]; exact h), cum_sum, cum_succ, Nat.zero_add]
/-! ### the greater ahead -/
def toI (x : List Nat) : List Int := x.map Int.ofNat
theorem mon_desc : ∀ n d, (mon n d).Pairwise fun a b => toI b < toI a
  | 0, 0 => by simp [mon]
  | 0, _ + 1 => by simp [mon]
  | n + 1, d => by
    rw [mon, List.pairwise_flatMap]
    refine ⟨fun i _ => ?_, ?_⟩
    · rw [List.pairwise_map]
      refine (mon_desc n i).imp fun {a b} h => ?_
      show (Int.ofNat (d - i) :: toI b : List Int) < Int.ofNat (d - i) :: toI a
      rw [List.cons_lt_cons_iff]
      exact .inr ⟨rfl, h⟩
    · have := List.pairwise_lt_range (n := d + 1)
      refine List.Pairwise.imp_of_mem ?_ this
      intro i j hi hj hij x hx y hy
      rw [List.mem_range] at hi hj
      obtain ⟨x', _, rfl⟩ := List.mem_map.mp hx
      obtain ⟨y', _, rfl⟩ := List.mem_map.mp hy
      show (Int.ofNat (d - j) :: toI y' : List Int) < Int.ofNat (d - i) :: toI x'
      rw [List.cons_lt_cons_iff]
      exact .inl (by simp only [Int.ofNat_eq_natCast]; omega)
/-! ### as the program builds them -/
abbrev MRow := List Nat × Nat
def mstep (R : List MRow) : List MRow := R.flatMap fun q => (List.range (q.2 + 1)).map fun i => (q.1 ++ [q.2 - i], i)
def msteps : Nat → List MRow → List MRow
  | 0, R => R
  | k + 1, R => msteps k (mstep R)
def ext (m : Nat) (q : MRow) : List (List Nat) := (mon m q.2).map (q.1 ++ ·)
theorem step_ext (m : Nat) (R : List MRow) : (mstep R).flatMap (ext m) = R.flatMap (ext (m + 1)) := by
  unfold mstep
  rw [List.flatMap_assoc]
  congr 1
  funext q
  unfold ext
  rw [mon, List.map_flatMap, List.flatMap_map]
  congr 1
  funext i
  rw [List.map_map]
  simp [Function.comp_def]
theorem msteps_ext (m : Nat) : ∀ (k : Nat) (R : List MRow), (msteps k R).flatMap (ext m) = R.flatMap (ext (m + k))
  | 0, R => rfl
  | k + 1, R => by
    rw [msteps, msteps_ext m k, step_ext, Nat.add_assoc]
theorem mon_one (d : Nat) : mon 1 d = [[d]] := by
  rw [mon, List.range_succ, List.flatMap_append]
  have : (List.range d).flatMap (fun i => (mon 0 i).map ((d - i) :: ·)) = if d = 0 then [] else [[d]] := by
    cases d with
    | zero => rfl
    | succ d =>
      rw [List.range_succ_eq_map, List.flatMap_cons, List.flatMap_map]
      simp [mon]
  rw [this]
  cases d with
  | zero => simp [mon]
  | succ d => simp [mon]
theorem steps_mon (n d : Nat) : (msteps n [([], d)]).map (fun q => q.1 ++ [q.2]) = mon (n + 1) d := by
  have h := msteps_ext 1 n [([], d)]
  have e : (fun q : MRow => ext 1 q) = fun q => [q.1 ++ [q.2]] := by
    funext q
    unfold ext
    rw [mon_one]
    rfl
  rw [show (ext 1) = fun q : MRow => [q.1 ++ [q.2]] from e] at h
  have e2 : (msteps n [([], d)]).map (fun q => q.1 ++ [q.2]) = (msteps n [([], d)]).flatMap (fun q : MRow => [q.1 ++ [q.2]]) := by
    generalize msteps n [([], d)] = R
    induction R with
    | nil => rfl
    | cons q R ih => rw [List.map_cons, List.flatMap_cons, ih]; rfl
  rw [e2, h, List.flatMap_cons, List.flatMap_nil, List.append_nil]
  unfold ext
  simp [Nat.add_comm]
theorem steps_len (n d k : Nat) (h : k ≤ n) : (msteps k [([], d)]).length ≤ wy (n + 1) d := by
  have e := msteps_ext (n + 1 - k) k [([], d)]
  have hl : ((msteps k [([], d)]).flatMap (ext (n + 1 - k))).length = wy (n + 1) d := by
    rw [e, List.flatMap_cons, List.flatMap_nil, List.append_nil]
    unfold ext
    rw [List.length_map, mon_length]
    congr 1
    omega
  rw [← hl]
  have one : ∀ R : List MRow, R.length ≤ (R.flatMap (ext (n + 1 - k))).length := by
    intro R
    induction R with
    | nil => simp
    | cons q R ih =>
      rw [List.flatMap_cons, List.length_append, List.length_cons]
      have : 1 ≤ (ext (n + 1 - k) q).length := by
        unfold ext
        rw [List.length_map, mon_length]
        obtain ⟨m, hm⟩ : ∃ m, n + 1 - k = m + 1 := ⟨n - k, by omega⟩
        rw [hm]
        exact wy_pos m _
      omega
  exact one _
end M93
set_option maxRecDepth 100000
set_option maxHeartbeats 2000000
/-! M93a: what the program's defs compute. -/
namespace Q
open PySem PySem.Spec PyProof.Rows L2 U
theorem check_letters_ok {n : Int} (h1 : 1 ≤ n) (h2 : n ≤ 12) : f_check_letters [.p (.int n)] = .ok .non [] := by
  simp [f_check_letters, b_check_letters, v_runF, h1, h2]
theorem check_letters_bad {n : Int} (h : ¬(1 ≤ n ∧ n ≤ 12)) : f_check_letters [.p (.int n)] = .exc ⟨0, [("count", .int n)]⟩ := by
  by_cases h1 : 1 ≤ n
  · have h2 : ¬ n ≤ 12 := fun z => h ⟨h1, z⟩
    simp [f_check_letters, b_check_letters, v_runF, h1, h2]
  · simp [f_check_letters, b_check_letters, v_runF, h1]
theorem monomial_count_letters {n d : Int} (h : ¬(1 ≤ n ∧ n ≤ 12)) : f_monomial_count [.p (.int n), .p (.int d)] = .exc ⟨0, [("count", .int n)]⟩ := by
  simp [f_monomial_count, b_monomial_count, v_runF, check_letters_bad h]
theorem monomial_count_degree {n d : Int} (h1 : 1 ≤ n) (h2 : n ≤ 12) (h : ¬(0 ≤ d ∧ d ≤ 32)) : f_monomial_count [.p (.int n), .p (.int d)] = .exc ⟨0, [("count", .int d)]⟩ := by
  by_cases h3 : 0 ≤ d
  · have h4 : ¬ d ≤ 32 := fun z => h ⟨h3, z⟩
    simp [f_monomial_count, b_monomial_count, v_runF, check_letters_ok h1 h2, h3, h4]
  · simp [f_monomial_count, b_monomial_count, v_runF, check_letters_ok h1 h2, h3]
theorem monomial_count_ok {n d : Int} (h1 : 1 ≤ n) (h2 : n ≤ 12) (h3 : 0 ≤ d) (h4 : d ≤ 32) : f_monomial_count [.p (.int n), .p (.int d)] = .ok (.int (PySem.W.mcComb (n + d - 1) d)) [] := by
  have h5 : 1 ≤ n + d := by omega
  have h6 : (n + d - 1).natAbs ≤ 18000 := by omega
  simp [f_monomial_count, b_monomial_count, v_runF, check_letters_ok h1 h2, h3, h4, h5, h6]
end Q
set_option maxRecDepth 100000
set_option maxHeartbeats 4000000
/-! M93b: monomials. -/
namespace Q
open PySem PySem.Spec PyProof.Rows L2 U M93
def nI (n : Nat) : D := .int (n : Int)
def tI (x : List Nat) : D := .tup (x.map nI)
def encR (q : MRow) : D := .tup [tI q.1, nI q.2]
theorem comb_rows : ∀ n : Nat, n < 12 → (List.range 33).map (fun d => PySem.W.mcComb ((n : Int) + 1 + ((d : Nat) : Int) - 1) (d : Int)) = (wyL (n + 1)).map Int.ofNat := by decide +kernel
theorem comb_table (n : Nat) (hn : n < 12) (d : Nat) (hd : d < 33) : PySem.W.mcComb ((n : Int) + 1 + (d : Int) - 1) (d : Int) = ((wy (n + 1) d : Nat) : Int) := by
  have h := congrArg (fun l : List Int => l[d]?) (comb_rows n hn)
  simp only [List.getElem?_map, wyL_get (n + 1) d hd] at h
  rw [List.getElem?_range hd] at h
  simpa using h
theorem count_ok {n d : Nat} (h1 : 1 ≤ n) (h2 : n ≤ 12) (h4 : d ≤ 32) : f_monomial_count [.p (nI n), .p (nI d)] = .ok (nI (wy n d)) [] := by
  obtain ⟨m, rfl⟩ : ∃ m, n = m + 1 := ⟨n - 1, by omega⟩
  unfold nI
  rw [monomial_count_ok (by omega) (by omega) (by omega) (by omega)]
  have := comb_table m (by omega) d (by omega)
  rw [show ((m + 1 : Nat) : Int) = (m : Int) + 1 by omega, this]
def stN (n d : Int) (z : D) (R : Slot) (x a b c : Slot) : DSt := [.pure (.int n), .pure (.int d), .pure z, R, x, a, b, c]
def stM (n d : Int) (z : D) (R : Slot) (x : Slot) : DSt := [.pure (.int n), .pure (.int d), .pure z, R, x, .un, .un, .un]
abbrev rowsOf : DE := dLc2 (iSq (dVar 3)) [5, 6, 7] (gT (gsCons (gN 5) (gsCons (gN 6) gsNil)) 2) bdYes (iR3 (lCons (dVar 6) (lCons (dNeg (dC (.int 1))) (lCons (dNeg (dC (.int 1))) lNil)))) [7] (gN 7) bdYes (dTup (lCons (dOp addD (dVar 5) (dTup (lCons (dVar 7) lNil))) (lCons (dOp subD (dVar 6) (dVar 7)) lNil)))
theorem down_nat (r : Nat) : downD (r : Int) (-1) = (List.range (r + 1)).map fun i => D.int ((r : Int) - (i : Nat)) := by
  unfold downD
  rw [show ((r : Int) - -1).toNat = r + 1 by omega]
theorem rows_step {n d : Int} {z : D} {x : Slot} (R : List MRow) (hR : ∀ q ∈ R, q.1.length ≤ 100 ∧ q.2 ≤ 1000) (hl : (mstep R).length ≤ 10000) : sSetF 3 rowsOf (stM n d z (.cell (.lst (R.map encR))) x) = .nx (stM n d z (.cell (.lst ((mstep R).map encR))) x) := by
  have key : lcGo2 [5, 6, 7] (gT (gsCons (gN 5) (gsCons (gN 6) gsNil)) 2) bdYes (iR3 (lCons (dVar 6) (lCons (dNeg (dC (.int 1))) (lCons (dNeg (dC (.int 1))) lNil)))) [7] (gN 7) bdYes (dTup (lCons (dOp addD (dVar 5) (dTup (lCons (dVar 7) lNil))) (lCons (dOp subD (dVar 6) (dVar 7)) lNil))) (R.map encR) []
      (stM n d z (.pure (.lst (R.map encR))) x) = .ok ((mstep R).map encR) (stM n d z (.pure (.lst (R.map encR))) x) := by
    have e := lc2_map (α := MRow) (vs := [5, 6, 7]) (vs1 := [7]) (t := gT (gsCons (gN 5) (gsCons (gN 6) gsNil)) 2) (ft := bdYes) (fi1 := iR3 (lCons (dVar 6) (lCons (dNeg (dC (.int 1))) (lCons (dNeg (dC (.int 1))) lNil)))) (t1 := gN 7) (ft1 := bdYes) (fe := dTup (lCons (dOp addD (dVar 5) (dTup (lCons (dVar 7) lNil))) (lCons (dOp subD (dVar 6) (dVar 7)) lNil))) (st0 := stM n d z (.pure (.lst (R.map encR))) x)
      encR (fun q => (List.range (q.2 + 1)).map fun i => D.int ((q.2 : Int) - (i : Nat))) (fun q => (List.range (q.2 + 1)).map fun i => encR (q.1 ++ [q.2 - i], i)) R [] (fun q hq => ?_) ?_
    · rw [e]
      unfold mstep
      rw [List.map_flatMap]
      simp [List.map_map, Function.comp_def]
    · obtain ⟨h1, h2⟩ := hR q hq
      refine ⟨stN n d z (.pure (.lst (R.map encR))) x (.pure (tI q.1)) (.pure (nI q.2)) .un, stN n d z (.pure (.lst (R.map encR))) x (.pure (tI q.1)) (.pure (nI q.2)) .un, stN n d z (.pure (.lst (R.map encR))) x (.pure (tI q.1)) (.pure (nI q.2)) .un, by simp [encR, stM, stN], rfl, ?_, fun acc ha => ?_, by simp [stM, stN]⟩
      · simp [nI, down_nat, stN]
        exact ⟨okR_nat (by omega), by decide⟩
      · have e2 := lc_map (α := Nat) (vs := [7]) (t := gN 7) (ft := bdYes) (fe := dTup (lCons (dOp addD (dVar 5) (dTup (lCons (dVar 7) lNil))) (lCons (dOp subD (dVar 6) (dVar 7)) lNil))) (st0 := stN n d z (.pure (.lst (R.map encR))) x (.pure (tI q.1)) (.pure (nI q.2)) .un)
          (fun i => D.int ((q.2 : Int) - (i : Nat))) (fun i => encR (q.1 ++ [q.2 - i], i)) (List.range (q.2 + 1)) acc (fun i hi => ?_) (by simpa using ha)
        · simpa [stN] using e2
        · rw [List.mem_range] at hi
          refine ⟨stN n d z (.pure (.lst (R.map encR))) x (.pure (tI q.1)) (.pure (nI q.2)) (.pure (.int ((q.2 : Int) - (i : Nat)))), stN n d z (.pure (.lst (R.map encR))) x (.pure (tI q.1)) (.pure (nI q.2)) (.pure (.int ((q.2 : Int) - (i : Nat)))), by simp [stN], rfl, ?_, by simp [stN]⟩
          have h3 : q.1.length + 1 ≤ mostD := by show _ ≤ 16777216; omega
          simp [tI, nI, encR, h3, stN]
          omega
    · have : (R.flatMap fun q => (List.range (q.2 + 1)).map fun i => encR (q.1 ++ [q.2 - i], i)).length = (mstep R).length := by
        unfold mstep
        simp [List.length_flatMap]
      rw [this]
      show 0 + _ ≤ 16777216
      omega
  simp [rowsOf, dLc2, stM] at key ⊢
  rw [key]
  simp
theorem mstep_mem {R : List MRow} {q : MRow} (h : q ∈ mstep R) : ∃ q0 ∈ R, q.1.length = q0.1.length + 1 ∧ q.2 ≤ q0.2 := by
  unfold mstep at h
  rw [List.mem_flatMap] at h
  obtain ⟨q0, h0, h⟩ := h
  obtain ⟨i, hi, rfl⟩ := List.mem_map.mp h
  rw [List.mem_range] at hi
  exact ⟨q0, h0, by simp, by simp; omega⟩
theorem msteps_succ : ∀ (k : Nat) (R : List MRow), msteps (k + 1) R = mstep (msteps k R)
  | 0, R => rfl
  | k + 1, R => by rw [msteps, msteps_succ k (mstep R), msteps]
theorem msteps_mem (d : Nat) : ∀ (k : Nat) {q : MRow}, q ∈ msteps k [([], d)] → q.1.length = k ∧ q.2 ≤ d
  | 0, q, h => by
    rw [msteps, List.mem_singleton] at h
    subst h
    exact ⟨rfl, Nat.le_refl _⟩
  | k + 1, q, h => by
    rw [msteps_succ] at h
    obtain ⟨q0, h0, h1, h2⟩ := mstep_mem h
    obtain ⟨h3, h4⟩ := msteps_mem d k h0
    exact ⟨by omega, by omega⟩
theorem for_rows {n d0 : Int} {z : D} (m d : Nat) (hm : m < 12) (hd : d ≤ 32) (hw : wy (m + 1) d ≤ 1000) :
    ∃ x, sFor' (gN 4) (sSetF 3 rowsOf) (rangeD 0 (m : Int)) (stM n d0 z (.cell (.lst [encR ([], d)])) .un) = .nx (stM n d0 z (.cell (.lst ((msteps m [([], d)]).map encR))) x) := by
  rw [range0]
  refine for_inv (t := gN 4) (F := sSetF 3 rowsOf) (fun i : Nat => D.int (i : Int)) (fun k st => ∃ x, st = stM n d0 z (.cell (.lst ((msteps k [([], d)]).map encR))) x) (fun r => ∃ x, r = SX.nx (stM n d0 z (.cell (.lst ((msteps m [([], d)]).map encR))) x)) (List.range m) 0 _ (fun k st j hj ⟨x, e⟩ => ?_) (fun st ⟨x, e⟩ => ?_) ⟨.un, rfl⟩
  · have hk : k < m := by
      have := (List.getElem?_eq_some_iff.mp hj).1
      rwa [List.length_range] at this
    rw [Nat.zero_add] at e
    subst e
    refine ⟨stM n d0 z (.cell (.lst ((msteps k [([], d)]).map encR))) (.pure (.int (j : Int))), by simp [stM], .inl ⟨_, rows_step (msteps k [([], d)]) (fun q hq => ?_) ?_, _, by rw [Nat.zero_add, msteps_succ]⟩⟩
    · obtain ⟨h5, h6⟩ := msteps_mem d k hq
      exact ⟨by omega, by omega⟩
    · have := steps_len m d (k + 1) hk
      rw [msteps_succ] at this
      omega
  · rw [List.length_range, Nat.zero_add] at e
    exact ⟨x, by rw [e]⟩
/-- the last round -/
theorem last_rows {n d0 : Int} {z : D} {x : Slot} (R : List MRow) (hR : ∀ q ∈ R, q.1.length ≤ 100) (hl : R.length ≤ 10000) :
    dLc (iSq (dVar 3)) [5, 6] (gT (gsCons (gN 5) (gsCons (gN 6) gsNil)) 2) bdYes (dOp addD (dVar 5) (dTup (lCons (dVar 6) lNil))) (stM n d0 z (.cell (.lst (R.map encR))) x) = .ok (.lst (R.map fun q => tI (q.1 ++ [q.2]))) (stM n d0 z (.pure (.lst (R.map encR))) x) := by
  have e := lc_map (α := MRow) (vs := [5, 6]) (t := gT (gsCons (gN 5) (gsCons (gN 6) gsNil)) 2) (ft := bdYes) (fe := dOp addD (dVar 5) (dTup (lCons (dVar 6) lNil))) (st0 := stM n d0 z (.pure (.lst (R.map encR))) x) encR (fun q => tI (q.1 ++ [q.2])) R [] (fun q hq => ?_) ?_
  · simp [stM] at e ⊢
    rw [e]
    simp
  · have h3 : q.1.length + 1 ≤ mostD := by have := hR q hq; show _ ≤ 16777216; omega
    exact ⟨stN n d0 z (.pure (.lst (R.map encR))) x (.pure (tI q.1)) (.pure (nI q.2)) .un, stN n d0 z (.pure (.lst (R.map encR))) x (.pure (tI q.1)) (.pure (nI q.2)) .un, by simp [encR, stM, stN], rfl, by simp [tI, nI, h3, stN], by simp [stM, stN]⟩
  · show 0 + _ ≤ 16777216
    omega
theorem count_int {N d0 : Int} {n d : Nat} (hN : N = n) (hd : d0 = d) (h1 : 1 ≤ n) (h2 : n ≤ 12) (h4 : d ≤ 32) : f_monomial_count [.p (.int N), .p (.int d0)] = .ok (.int (wy n d : Int)) [] := by
  subst hN hd
  exact count_ok h1 h2 h4
theorem monomials_ok {N d0 : Int} {n d : Nat} (hN : N = n) (hd : d0 = d) (h1 : 1 ≤ n) (h2 : n ≤ 12) (h4 : d ≤ 32) (hw : wy n d ≤ 1000) : f_monomials [.p (.int N), .p (.int d0)] = .okf (.lst ((mon n d).map tI)) [] := by
  obtain ⟨m, rfl⟩ : ∃ m, n = m + 1 := ⟨n - 1, by omega⟩
  have hc := count_int hN hd h1 h2 h4
  obtain ⟨x, hf⟩ := for_rows (n := N) (d0 := d0) (z := .int (wy (m + 1) d : Int)) m d (by omega) h4 hw
  have hl := last_rows (n := N) (d0 := d0) (z := .int (wy (m + 1) d : Int)) (x := x) (msteps m [([], d)]) (fun q hq => by have := (msteps_mem d m hq).1; omega) (by have := steps_len m d m (Nat.le_refl _); omega)
  have hm := congrArg (List.map tI) (steps_mon m d)
  rw [List.map_map] at hm
  have e : (m : Int) = N - 1 := by omega
  have hok : okR (N - 1) = true := okR_int (by omega) (by omega)
  generalize hg : (wy (m + 1) d : Int) = g at hc hf hl
  have hgt : ¬ (1000 : Int) < g := by omega
  rw [e] at hf
  have hb : b_monomials [.pure (.int N), .pure (.int d0), .un, .un, .un, .un, .un, .un] = .rf (.lst ((mon (m + 1) d).map tI)) (stM N d0 (.int g) (.pure (.lst ((msteps m [([], d)]).map encR))) x) := by
    rw [← hm]
    have e0 : encR ([], d) = .tup [.tup [], .int d0] := by rw [hd]; rfl
    rw [e0] at hf
    unfold b_monomials
    have A : sSet 2 (dCallU f_monomial_count (lenIs 2 (aV (dVar 0) (aV (dVar 1) aNil)))) [.pure (.int N), .pure (.int d0), .un, .un, .un, .un, .un, .un] = .nx [.pure (.int N), .pure (.int d0), .pure (.int g), .un, .un, .un, .un, .un] := by
      simp [hc]
    have B : sIf (bdVal (dOp gtD (dVar 2) (dC (.int 1000)))) (sRaise 3 ["size"] (lCons (dVar 2) lNil)) sNil [.pure (.int N), .pure (.int d0), .pure (.int g), .un, .un, .un, .un, .un] = .nx [.pure (.int N), .pure (.int d0), .pure (.int g), .un, .un, .un, .un, .un] := by
      simp [hgt]
    have C : sSetF 3 (dLst (lCons (dTup (lCons (dTup lNil) (lCons (dVar 1) lNil))) lNil)) [.pure (.int N), .pure (.int d0), .pure (.int g), .un, .un, .un, .un, .un] = .nx (stM N d0 (.int g) (.cell (.lst [.tup [.tup [], .int d0]])) .un) := by
      simp [stM]
    have E : sFor (iR1 (lCons (dOp subD (dVar 0) (dC (.int 1))) lNil)) (gN 4) (sSetF 3 rowsOf) (stM N d0 (.int g) (.cell (.lst [.tup [.tup [], .int d0]])) .un) = .nx (stM N d0 (.int g) (.cell (.lst ((msteps m [([], d)]).map encR))) x) := by
      rw [← hf]
      simp [hok, stM]
    rw [seq_nx A, seq_nx B, seq_nx C, seq_nx E]
    rw [v_sRetF, hl]
    rfl
  rw [f_monomials, v_runF]
  show (match b_monomials [.pure (.int N), .pure (.int d0), .un, .un, .un, .un, .un, .un] with
    | .nx st => _
    | .rt d st => _
    | .rf d st => _
    | .exc x _ => _
    | _ => _) = _
  rw [hb]
  rfl
theorem monomials_big {N d0 : Int} {n d : Nat} (hN : N = n) (hd : d0 = d) (h1 : 1 ≤ n) (h2 : n ≤ 12) (h4 : d ≤ 32) (hw : 1000 < wy n d) : f_monomials [.p (.int N), .p (.int d0)] = .exc ⟨3, [("size", .int (wy n d : Int))]⟩ := by
  have hc := count_int hN hd h1 h2 h4
  have hgt : (1000 : Int) < (wy n d : Int) := by omega
  simp [f_monomials, b_monomials, v_runF, hc, hgt]
theorem monomials_bad {N d0 : Int} {x : XD} (hc : f_monomial_count [.p (.int N), .p (.int d0)] = .exc x) : f_monomials [.p (.int N), .p (.int d0)] = .exc x := by
  simp [f_monomials, b_monomials, v_runF, hc]
end Q
set_option maxRecDepth 100000
set_option maxHeartbeats 4000000
/-! M93c: the place. -/
namespace Q
open PySem PySem.Spec PyProof.Rows L2 U M93
abbrev iD (i : Int) : D := .int i
theorem place_rows : ∀ m : Nat, m < 12 → (List.range 33).map (fun s => PySem.W.mcComb ((m : Int) + ((s : Nat) : Int)) (m : Int)) = (wyL (m + 1)).map Int.ofNat := by decide +kernel
theorem place_table (m : Nat) (hm : m < 12) (s : Nat) (hs : s < 33) : PySem.W.mcComb ((m : Int) + (s : Int)) (m : Int) = ((wy (m + 1) s : Nat) : Int) := by
  have h := congrArg (fun l : List Int => l[s]?) (place_rows m hm)
  simp only [List.getElem?_map, wyL_get (m + 1) s hs] at h
  rw [List.getElem?_range hs] at h
  simpa using h
/-! ### check_exponents -/
abbrev chkF : DS := sIf (bdVal (dOp ltD (dVar 2) (dC (.int 0)))) (sRaise 2 ["exponent"] (lCons (dVar 2) lNil)) sNil
theorem chk_ok {a b : Slot} : ∀ (xs : List Int) (x : Slot), (∀ v ∈ xs, 0 ≤ v) → ∃ x', sFor' (gN 2) chkF (xs.map iD) [a, b, x] = .nx [a, b, x']
  | [], x, _ => ⟨x, rfl⟩
  | v :: xs, x, h => by
    have hv : ¬ v < 0 := by have := h v List.mem_cons_self; omega
    obtain ⟨x', e⟩ := chk_ok xs (.pure (.int v)) fun w hw => h w (List.mem_cons_of_mem _ hw)
    refine ⟨x', ?_⟩
    rw [List.map_cons, v_for_cons, ← e]
    simp [hv]
theorem chk_bad {a b : Slot} {v : Int} : ∀ (xs : List Int) (x : Slot), xs.find? (fun v => decide (v < 0)) = some v → ∃ x', sFor' (gN 2) chkF (xs.map iD) [a, b, x] = .exc ⟨2, [("exponent", .int v)]⟩ [a, b, x']
  | [], x, h => by cases h
  | w :: xs, x, h => by
    rw [List.find?_cons] at h
    by_cases hw : w < 0
    · simp [hw] at h
      subst h
      exact ⟨.pure (.int w), by rw [List.map_cons, v_for_cons]; simp [hw]⟩
    · simp [hw] at h
      obtain ⟨x', e⟩ := chk_bad xs (.pure (.int w)) h
      refine ⟨x', ?_⟩
      rw [List.map_cons, v_for_cons, ← e]
      simp [hw]
theorem check_exponents_ok (xs : List Int) (h : ∀ v ∈ xs, 0 ≤ v) : f_check_exponents [.p (.int xs.length), .p (.tup (xs.map iD))] = .ok .non [] := by
  obtain ⟨x', e⟩ := chk_ok (a := .pure (.int xs.length)) (b := .pure (.tup (xs.map iD))) xs .un h
  simp [f_check_exponents, b_check_exponents, v_runF]
  rw [e]
theorem check_exponents_bad {xs : List Int} {v : Int} (h : xs.find? (fun v => decide (v < 0)) = some v) : f_check_exponents [.p (.int xs.length), .p (.tup (xs.map iD))] = .exc ⟨2, [("exponent", .int v)]⟩ := by
  obtain ⟨x', e⟩ := chk_bad (a := .pure (.int xs.length)) (b := .pure (.tup (xs.map iD))) xs .un h
  simp [f_check_exponents, b_check_exponents, v_runF]
  rw [e]
/-! ### monomial_place -/
def enF : Nat → List D → List D
  | _, [] => []
  | k, d :: ds => .tup [.int (k : Int), d] :: enF (k + 1) ds
theorem enF_mapIdx : ∀ (ds : List D) (k : Nat), enF k ds = ds.mapIdx fun i d => D.tup [.int ((k + i : Nat) : Int), d]
  | [], _ => rfl
  | d :: ds, k => by
    rw [enF, enF_mapIdx ds (k + 1), List.mapIdx_cons]
    simp [Nat.add_comm, Nat.add_left_comm]
theorem enumD_eq (ds : List D) : enumD ds = enF 0 ds := by
  rw [enF_mapIdx]
  unfold enumD
  simp
abbrev plF : DS := sSeq (sSet 6 (dOp subD (dOp subD (dVar 1) (dVar 4)) (dC (.int 1)))) (sSeq (sIf (bdVal (dOp ltD (dVar 5) (dVar 2))) (sSet 3 (dOp addD (dVar 3) (dCall combD (lCons (dOp subD (dOp subD (dOp addD (dVar 6) (dVar 2)) (dVar 5)) (dC (.int 1))) (lCons (dVar 6) lNil))))) sNil) (sSet 2 (dOp subD (dVar 2) (dVar 5))))
theorem place_loop {e : D} : ∀ (t : List Nat) (k : Nat) (L r p : Int) (a b c : Slot), L = (k : Int) + t.length → r = (t.sum : Nat) → t.sum ≤ 32 → t.length ≤ 12 →
    ∃ r' a' b' c', sFor' (gT (gsCons (gN 4) (gsCons (gN 5) gsNil)) 2) plF (enF k (t.map nI)) [.pure e, .pure (.int L), .pure (.int r), .pure (.int p), a, b, c] = .nx [.pure e, .pure (.int L), .pure (.int r'), .pure (.int (p + (pl t t.sum : Nat))), a', b', c']
  | [], k, L, r, p, a, b, c, _, _, _, _ => ⟨r, a, b, c, by simp [enF, pl]⟩
  | x :: t, k, L, r, p, a, b, c, hL, hr, hs, hl => by
    rw [List.sum_cons] at hr hs
    rw [List.length_cons] at hL hl
    have hx : (x :: t).sum - x = t.sum := by rw [List.sum_cons]; omega
    have hB : L - (k : Int) - 1 = (t.length : Int) := by omega
    rw [pl, hx, List.map_cons, enF, v_for_cons]
    by_cases hlt : (x : Int) < r
    · obtain ⟨s, hsum⟩ : ∃ s, t.sum = s + 1 := ⟨t.sum - 1, by omega⟩
      have hc : cum t.length t.sum = wy (t.length + 1) s := by rw [hsum, cum_succ]
      have hA : L - (k : Int) - 1 + r - (x : Int) - 1 = (t.length : Int) + (s : Int) := by omega
      have htab := place_table t.length (by omega) s (by omega)
      obtain ⟨r', a', b', c', ih⟩ := place_loop (e := e) t (k + 1) L (r - x) (p + (wy (t.length + 1) s : Nat)) (.pure (.int (k : Int))) (.pure (.int (x : Int))) (.pure (.int (L - (k : Int) - 1))) (by omega) (by omega) (by omega) (by omega)
      refine ⟨r', a', b', c', ?_⟩
      have hB' : 0 ≤ L - (k : Int) - 1 := by omega
      have h18 : ((t.length : Int) + (s : Int)).natAbs ≤ 18000 := by omega
      have h0 : (0 : Int) ≤ (t.length : Int) + (s : Int) := by omega
      have body : plF [.pure e, .pure (.int L), .pure (.int r), .pure (.int p), .pure (.int (k : Int)), .pure (.int (x : Int)), c] = .nx [.pure e, .pure (.int L), .pure (.int (r - x)), .pure (.int (p + (wy (t.length + 1) s : Nat))), .pure (.int (k : Int)), .pure (.int (x : Int)), .pure (.int (L - (k : Int) - 1))] := by
        have hcomb : combD [.int (L - (k : Int) - 1 + r - (x : Int) - 1), .int (L - (k : Int) - 1)] = some (.int (wy (t.length + 1) s : Nat)) := by
          rw [hA, hB, v_comb, if_pos ⟨h0, by omega, h18⟩, htab]
        simp [-v_comb, hcomb, hlt]
      simp only [nI, v_gT, v_gsCons, v_gN, v_gsNil, List.length_cons, List.length_nil, Option.bind_some, List.set_cons_succ, List.set_cons_zero]
      rw [if_pos trivial]
      dsimp only
      rw [body]
      dsimp only
      rw [ih, hc]
      simp [Int.add_assoc]
    · have h0 : t.sum = 0 := by omega
      obtain ⟨r', a', b', c', ih⟩ := place_loop (e := e) t (k + 1) L (r - x) p (.pure (.int (k : Int))) (.pure (.int (x : Int))) (.pure (.int (L - (k : Int) - 1))) (by omega) (by omega) (by omega) (by omega)
      refine ⟨r', a', b', c', ?_⟩
      have body : plF [.pure e, .pure (.int L), .pure (.int r), .pure (.int p), .pure (.int (k : Int)), .pure (.int (x : Int)), c] = .nx [.pure e, .pure (.int L), .pure (.int (r - x)), .pure (.int p), .pure (.int (k : Int)), .pure (.int (x : Int)), .pure (.int (L - (k : Int) - 1))] := by
        simp [hlt]
      simp only [nI, v_gT, v_gsCons, v_gN, v_gsNil, List.length_cons, List.length_nil, Option.bind_some, List.set_cons_succ, List.set_cons_zero]
      rw [if_pos trivial]
      dsimp only
      rw [body]
      dsimp only
      rw [ih, h0]
      simp [cum]
end Q
set_option maxRecDepth 100000
set_option maxHeartbeats 4000000
/-! M93d: monomial_place; what is asked of the program within try. -/
namespace Q
open PySem PySem.Spec PyProof.Rows L2 U M93
theorem place_len {ds : List D} (h : ¬(1 ≤ (ds.length : Int) ∧ (ds.length : Int) ≤ 12)) : f_monomial_place [.p (.tup ds)] = .exc ⟨0, [("count", .int ds.length)]⟩ := by
  simp [f_monomial_place, b_monomial_place, v_runF, check_letters_bad h]
theorem place_neg {xs : List Int} {v : Int} (h1 : 1 ≤ (xs.length : Int)) (h2 : (xs.length : Int) ≤ 12) (h : xs.find? (fun v => decide (v < 0)) = some v) : f_monomial_place [.p (.tup (xs.map iD))] = .exc ⟨2, [("exponent", .int v)]⟩ := by
  have c1 := check_letters_ok h1 h2
  have c2 := check_exponents_bad h
  simp [f_monomial_place, b_monomial_place, v_runF, c1, c2]
theorem place_big {xs : List Int} (h1 : 1 ≤ (xs.length : Int)) (h2 : (xs.length : Int) ≤ 12) (h : ∀ v ∈ xs, 0 ≤ v) (hs : 32 < xs.sum) : f_monomial_place [.p (.tup (xs.map iD))] = .exc ⟨3, [("size", .int xs.sum)]⟩ := by
  have c1 := check_letters_ok h1 h2
  have c2 := check_exponents_ok xs h
  have c3 := v_sum2 xs
  simp [f_monomial_place, b_monomial_place, v_runF, c1, c2, c3, hs]
theorem toI_iD (x : List Nat) : (toI x).map iD = x.map nI := by
  unfold toI
  rw [List.map_map]
  rfl
theorem toI_sum : ∀ x : List Nat, (toI x).sum = (x.sum : Int)
  | [] => rfl
  | a :: x => by
    have ih := toI_sum x
    unfold toI at ih ⊢
    rw [List.map_cons, List.sum_cons, ih, List.sum_cons]
    simp
theorem toI_nonneg (x : List Nat) : ∀ v ∈ toI x, 0 ≤ v := fun v h => by
  unfold toI at h
  obtain ⟨a, _, rfl⟩ := List.mem_map.mp h
  exact Int.natCast_nonneg a
theorem place_ok {x : List Nat} (h1 : 1 ≤ x.length) (h2 : x.length ≤ 12) (hs : x.sum ≤ 32) : f_monomial_place [.p (tI x)] = .ok (.int (pl x x.sum : Nat)) [] := by
  have hl : (toI x).length = x.length := by unfold toI; rw [List.length_map]
  have c1 := check_letters_ok (n := ((toI x).length : Int)) (by omega) (by omega)
  have c2 := check_exponents_ok (toI x) (toI_nonneg x)
  have c3 := v_sum2 (toI x)
  rw [toI_sum] at c3
  rw [toI_iD] at c2
  have c3' : sumD (.tup (x.map nI)) = some (.int (x.sum : Int)) := by rw [← toI_iD]; exact c3
  rw [hl] at c1 c2
  obtain ⟨r', a', b', c', e⟩ := place_loop (e := tI x) x 0 x.length x.sum 0 .un .un .un (by omega) rfl hs h2
  have hgt : ¬ (32 : Int) < (x.sum : Int) := by omega
  rw [f_monomial_place, v_runF]
  have hb : b_monomial_place [.pure (tI x), .un, .un, .un, .un, .un, .un] = .rt (.int (pl x x.sum : Nat)) [.pure (tI x), .pure (.int x.length), .pure (.int r'), .pure (.int ((0 : Int) + (pl x x.sum : Nat))), a', b', c'] := by
    unfold b_monomial_place
    have A : sSet 1 (dCall1 lenD (dSee 0)) [.pure (tI x), .un, .un, .un, .un, .un, .un] = .nx [.pure (tI x), .pure (.int x.length), .un, .un, .un, .un, .un] := by simp [tI]
    have B : sDrop (dCallU f_check_letters (lenIs 1 (aV (dVar 1) aNil))) [.pure (tI x), .pure (.int x.length), .un, .un, .un, .un, .un] = .nx [.pure (tI x), .pure (.int x.length), .un, .un, .un, .un, .un] := by simp [c1]
    have C : sDrop (dCallU f_check_exponents (lenIs 2 (aV (dVar 1) (aV (dVar 0) aNil)))) [.pure (tI x), .pure (.int x.length), .un, .un, .un, .un, .un] = .nx [.pure (tI x), .pure (.int x.length), .un, .un, .un, .un, .un] := by simp [tI, c2]
    have E : sSet 2 (dCall1 sumD (dSee 0)) [.pure (tI x), .pure (.int x.length), .un, .un, .un, .un, .un] = .nx [.pure (tI x), .pure (.int x.length), .pure (.int x.sum), .un, .un, .un, .un] := by simp [tI, c3']
    have G : sIf (bdVal (dOp gtD (dVar 2) (dC (.int 32)))) (sRaise 3 ["size"] (lCons (dVar 2) lNil)) sNil [.pure (tI x), .pure (.int x.length), .pure (.int x.sum), .un, .un, .un, .un] = .nx [.pure (tI x), .pure (.int x.length), .pure (.int x.sum), .un, .un, .un, .un] := by simp [hgt]
    have H : sSet 3 (dC (.int 0)) [.pure (tI x), .pure (.int x.length), .pure (.int x.sum), .un, .un, .un, .un] = .nx [.pure (tI x), .pure (.int x.length), .pure (.int x.sum), .pure (.int 0), .un, .un, .un] := by simp
    have J : sFor (iEn (dVar 0)) (gT (gsCons (gN 4) (gsCons (gN 5) gsNil)) 2) plF [.pure (tI x), .pure (.int x.length), .pure (.int x.sum), .pure (.int 0), .un, .un, .un] = .nx [.pure (tI x), .pure (.int x.length), .pure (.int r'), .pure (.int ((0 : Int) + (pl x x.sum : Nat))), a', b', c'] := by
      rw [← e]
      simp [tI, enumD_eq]
    rw [seq_nx A, seq_nx B, seq_nx C, seq_nx E, seq_nx G, seq_nx H, seq_nx J]
    simp
  show (match b_monomial_place [.pure (tI x), .un, .un, .un, .un, .un, .un] with
    | .nx st => _
    | .rt d st => _
    | .rf d st => _
    | .exc x _ => _
    | _ => _) = _
  rw [hb]
  rfl
/-! ### the law's own: _law_int, _law_held, _law_error -/
theorem law_int_int (i : Int) : f__law_int [.p (.int i)] = .ok (.bl true) [] := by
  have h1 : isTD ty_int (.int i) = some (.bl true) := rfl
  have h2 : isTD ty_bool (.int i) = some (.bl false) := rfl
  simp [f__law_int, b__law_int, v_runF, h1, h2]
theorem law_held_int (s : Str) (i : Int) : f__law_held [.p (.str s), .p (.int i)] = .ok (.tup [.str s, .int i]) [] := by
  simp [f__law_held, b__law_held, v_runF, law_int_int]
end Q
set_option maxRecDepth 100000
set_option maxHeartbeats 4000000
/-! M93e: _law_error, _law_ask. -/
namespace Q
open PySem PySem.Spec PyProof.Rows L2 U M93
theorem err_count (i : Int) : f__law_error [.p (.exc 0 [("count", .int i)])] = .ok (.tup [.str "BadCount", .int i]) [] := by
  have a1 : ∀ f, isXD an_BadCount (.exc 0 f) = some (.bl true) := fun _ => rfl
  have a2 : ∀ f, isXD an_BadExponent (.exc 0 f) = some (.bl false) := fun _ => rfl
  have a3 : ∀ f, isXD an_BadSizes (.exc 0 f) = some (.bl false) := fun _ => rfl
  have a4 : ∀ f, isXD an_TooLarge (.exc 0 f) = some (.bl false) := fun _ => rfl
  have a5 : ∀ f, isXD an_ValueError (.exc 0 f) = some (.bl true) := fun _ => rfl
  have s : sumLD (.lst [.int 1, .int 0, .int 0, .int 0]) = some (.int 1) := rfl
  have l : List.lookup ("count" : Str) [(("count" : Str), D.int i)] = some (.int i) := rfl
  simp [f__law_error, b__law_error, v_runF, a1, a2, a3, a4, a5, v_lc1, s, dXf, l, law_held_int]
theorem err_exponent (i : Int) : f__law_error [.p (.exc 2 [("exponent", .int i)])] = .ok (.tup [.str "BadExponent", .int i]) [] := by
  have a1 : ∀ f, isXD an_BadCount (.exc 2 f) = some (.bl false) := fun _ => rfl
  have a2 : ∀ f, isXD an_BadExponent (.exc 2 f) = some (.bl true) := fun _ => rfl
  have a3 : ∀ f, isXD an_BadSizes (.exc 2 f) = some (.bl false) := fun _ => rfl
  have a4 : ∀ f, isXD an_TooLarge (.exc 2 f) = some (.bl false) := fun _ => rfl
  have a5 : ∀ f, isXD an_ValueError (.exc 2 f) = some (.bl true) := fun _ => rfl
  have s : sumLD (.lst [.int 0, .int 1, .int 0, .int 0]) = some (.int 1) := rfl
  have l : List.lookup ("exponent" : Str) [(("exponent" : Str), D.int i)] = some (.int i) := rfl
  simp [f__law_error, b__law_error, v_runF, a1, a2, a3, a4, a5, v_lc1, s, dXf, l, law_held_int]
theorem err_size (i : Int) : f__law_error [.p (.exc 3 [("size", .int i)])] = .ok (.tup [.str "TooLarge", .int i]) [] := by
  have a1 : ∀ f, isXD an_BadCount (.exc 3 f) = some (.bl false) := fun _ => rfl
  have a2 : ∀ f, isXD an_BadExponent (.exc 3 f) = some (.bl false) := fun _ => rfl
  have a3 : ∀ f, isXD an_BadSizes (.exc 3 f) = some (.bl false) := fun _ => rfl
  have a4 : ∀ f, isXD an_TooLarge (.exc 3 f) = some (.bl true) := fun _ => rfl
  have a5 : ∀ f, isXD an_ValueError (.exc 3 f) = some (.bl true) := fun _ => rfl
  have s : sumLD (.lst [.int 0, .int 0, .int 0, .int 1]) = some (.int 1) := rfl
  have l : List.lookup ("size" : Str) [(("size" : Str), D.int i)] = some (.int i) := rfl
  simp [f__law_error, b__law_error, v_runF, a1, a2, a3, a4, a5, v_lc1, s, dXf, l, law_held_int]
/-! ### _law_ask -/
theorem ask_list {a b : D} {l : List D} (h : f_monomials [.p a, .p b] = .okf (.lst l) []) : f__law_ask [.p (.int 0), .p a, .p b] = .ok (.tup [.str "told", .lst l]) [] := by
  simp [f__law_ask, U.runN, b__law_ask, sTry, h]
theorem ask_count {a b : D} {i : Int} (h : f_monomial_count [.p a, .p b] = .ok (.int i) []) : f__law_ask [.p (.int 1), .p a, .p b] = .ok (.tup [.str "told", .int i]) [] := by
  simp [f__law_ask, U.runN, b__law_ask, sTry, h, noP]
theorem ask_place {a b : D} {i : Int} (h : f_monomial_place [.p a] = .ok (.int i) []) : f__law_ask [.p (.int 2), .p a, .p b] = .ok (.tup [.str "told", .int i]) [] := by
  simp [f__law_ask, U.runN, b__law_ask, sTry, h, noP]
/-- the errors that have one number -/
def errOf (x : XD) (s : Str) (i : Int) : Prop := is_FormsError x.c = some true ∧ f__law_error [.p (.exc x.c x.fs)] = .ok (.tup [.str s, .int i]) []
theorem e_count (i : Int) : errOf ⟨0, [("count", .int i)]⟩ "BadCount" i := ⟨rfl, err_count i⟩
theorem e_exponent (i : Int) : errOf ⟨2, [("exponent", .int i)]⟩ "BadExponent" i := ⟨rfl, err_exponent i⟩
theorem e_size (i : Int) : errOf ⟨3, [("size", .int i)]⟩ "TooLarge" i := ⟨rfl, err_size i⟩
theorem ask0_err {a b : D} {x : XD} {s : Str} {i : Int} (e : errOf x s i) (h : f_monomials [.p a, .p b] = .exc x) : f__law_ask [.p (.int 0), .p a, .p b] = .ok (.tup [.str s, .int i]) [] := by
  simp [f__law_ask, U.runN, b__law_ask, sTry, h, e.1, e.2, noP, noX, noXs]
theorem ask1_err {a b : D} {x : XD} {s : Str} {i : Int} (e : errOf x s i) (h : f_monomial_count [.p a, .p b] = .exc x) : f__law_ask [.p (.int 1), .p a, .p b] = .ok (.tup [.str s, .int i]) [] := by
  simp [f__law_ask, U.runN, b__law_ask, sTry, h, e.1, e.2, noP, noX, noXs]
theorem ask2_err {a b : D} {x : XD} {s : Str} {i : Int} (e : errOf x s i) (h : f_monomial_place [.p a] = .exc x) : f__law_ask [.p (.int 2), .p a, .p b] = .ok (.tup [.str s, .int i]) [] := by
  simp [f__law_ask, U.runN, b__law_ask, sTry, h, e.1, e.2, noP, noX, noXs]
end Q
set_option maxRecDepth 100000
set_option maxHeartbeats 4000000
/-! M93f: the law's own table and places. -/
namespace Q
open PySem PySem.Spec PyProof.Rows L2 U M93
def waysD : D := .lst ((List.range 13).map fun n => .lst ((wyL n).map nI))
theorem ways_ok : f__law_ways [] = .okf waysD [] := by kernel_rfl
theorem ways_at {n : Nat} (h : n < 13) : ixD waysD (.int (n : Int)) = some (.lst ((wyL n).map nI)) := by
  unfold waysD
  rw [v_ix2]
  exact U.atI_nat (by rw [List.getElem?_map, List.getElem?_range h]; rfl)
theorem row_at {n d : Nat} (h : d < 33) : ixD (.lst ((wyL n).map nI)) (.int (d : Int)) = some (nI (wy n d)) := by
  rw [v_ix2]
  exact U.atI_nat (by rw [List.getElem?_map, wyL_get n d h]; rfl)
abbrev befI : DS := sSet 2 (dOp addD (dVar 2) (dOp ixD (dIxv 0 (dOp subD (dOp subD (dCall1 lenD (dSee 1)) (dVar 4)) (dC (.int 1)))) (dOp subD (dVar 3) (dVar 5))))
abbrev befF : DS := sSeq (sFor (iR2 (lCons (dOp addD (dIxv 1 (dVar 4)) (dC (.int 1))) (lCons (dOp addD (dVar 3) (dC (.int 1))) lNil))) (gN 5) befI) (sSet 3 (dOp subD (dVar 3) (dIxv 1 (dVar 4))))
theorem range_nat {a n : Nat} {A R : Int} (hA : A = a) (hR : R = (a : Int) + n) : rangeD (A + 1) (R + 1) = (List.range n).map fun i => D.int (A + 1 + (i : Nat)) := by
  unfold rangeD
  rw [show ((R + 1) - (A + 1)).toNat = n by omega]
theorem bef_inner {xs : List D} {m e n : Nat} {p A R K : Int} {g : Slot} (hA : A = e) (hR : R = (e : Int) + n) (hl : (xs.length : Int) - K - 1 = (m : Int)) (hm : m < 13) (hn : n ≤ 32) :
    ∃ g', sFor' (gN 5) befI (rangeD (A + 1) (R + 1)) [.pure waysD, .pure (.tup xs), .pure (.int p), .pure (.int R), .pure (.int K), g] =
      .nx [.pure waysD, .pure (.tup xs), .pure (.int (p + (cum m n : Nat))), .pure (.int R), .pure (.int K), g'] := by
  rw [range_nat hA hR]
  refine for_inv (t := gN 5) (F := befI) (fun i : Nat => D.int (A + 1 + (i : Nat))) (fun i st => ∃ g', st = [.pure waysD, .pure (.tup xs), .pure (.int (p + (cum m n : Nat) - (cum m (n - i) : Nat))), .pure (.int R), .pure (.int K), g'])
    (fun r => ∃ g', r = SX.nx [.pure waysD, .pure (.tup xs), .pure (.int (p + (cum m n : Nat))), .pure (.int R), .pure (.int K), g']) (List.range n) 0 _ (fun i st j hj ⟨g', e'⟩ => ?_) (fun st ⟨g', e'⟩ => ?_) ⟨g, by simp⟩
  · have hi : i < n := by
      have := (List.getElem?_eq_some_iff.mp hj).1
      rwa [List.length_range] at this
    rw [List.getElem?_range hi] at hj
    cases hj
    rw [Nat.zero_add] at e'
    subst e'
    refine ⟨_, v_gN, .inl ⟨_, ?_, .pure (.int (A + 1 + (i : Nat))), rfl⟩⟩
    have h1 := ways_at hm
    have h2 := row_at (n := m) (d := n - (i + 1)) (by omega)
    have h3 : R - (A + 1 + (i : Nat)) = ((n - (i + 1) : Nat) : Int) := by omega
    have h4 : cum m (n - i) = cum m (n - (i + 1)) + wy m (n - (i + 1)) := by
      rw [show n - i = (n - (i + 1)) + 1 by omega, cum]
    have hv : p + (cum m n : Nat) - (cum m (n - i) : Nat) + (wy m (n - (i + 1)) : Nat) = p + (cum m n : Nat) - (cum m (n - (0 + i + 1)) : Nat) := by
      rw [h4, show 0 + i + 1 = i + 1 by omega]
      omega
    rw [← hv]
    rw [← hl] at h1
    rw [← h3] at h2
    simp only [nI] at h2
    generalize A + 1 + (i : Int) = z at h2
    simp [-v_ix1, -v_ix2, h1, h2]
  · rw [List.length_range, Nat.zero_add, Nat.sub_self] at e'
    exact ⟨g', by rw [e']; simp [cum]⟩
theorem bef_loop {xs : List Nat} : ∀ (t : List Nat) (k : Nat) (p R : Int) (a b : Slot), xs.drop k = t → R = (t.sum : Nat) → t.sum ≤ 32 → xs.length ≤ 12 →
    ∃ r a' b', sFor' (gN 4) befF ((List.range' k t.length).map fun i : Nat => D.int (i : Int)) [.pure waysD, .pure (tI xs), .pure (.int p), .pure (.int R), a, b] = .nx [.pure waysD, .pure (tI xs), .pure (.int (p + (pl t t.sum : Nat))), r, a', b']
  | [], k, p, R, a, b, _, _, _, _ => ⟨.pure (.int R), a, b, by simp [pl]⟩
  | e :: t, k, p, R, a, b, hd, hR, hs, hl => by
    have hk : k < xs.length := by
      rcases Nat.lt_or_ge k xs.length with h | h
      · exact h
      · rw [List.drop_eq_nil_of_le h] at hd; cases hd
    have hx : xs[k]? = some e ∧ xs.drop (k + 1) = t := by
      rw [List.drop_eq_getElem_cons hk] at hd
      injection hd with h1 h2
      exact ⟨by rw [List.getElem?_eq_getElem hk, h1], h2⟩
    have hlen : t.length = xs.length - (k + 1) := by rw [← hx.2, List.length_drop]
    have hsum : (e :: t).sum = e + t.sum := List.sum_cons
    have hsub : (e :: t).sum - e = t.sum := by omega
    obtain ⟨K, hK⟩ : ∃ K : Int, K = (k : Int) := ⟨_, rfl⟩
    obtain ⟨A, hA⟩ : ∃ A : Int, A = (e : Int) := ⟨_, rfl⟩
    obtain ⟨g', hin⟩ := bef_inner (xs := xs.map nI) (m := t.length) (e := e) (n := t.sum) (p := p) (A := A) (R := R) (K := K) (g := b) hA (by omega) (by rw [List.length_map]; omega) (by omega) (by omega)
    obtain ⟨r, a', b', ih⟩ := bef_loop (xs := xs) t (k + 1) (p + (cum t.length t.sum : Nat)) (R - A) (.pure (.int K)) g' hx.2 (by omega) (by omega) hl
    refine ⟨r, a', b', ?_⟩
    have hat : ixD (.tup (xs.map nI)) (.int K) = some (.int A) := by
      rw [v_ix1, hK, hA]
      exact U.atI_nat (by rw [List.getElem?_map, hx.1]; rfl)
    have body : befF [.pure waysD, .pure (tI xs), .pure (.int p), .pure (.int R), .pure (.int K), b] = .nx [.pure waysD, .pure (tI xs), .pure (.int (p + (cum t.length t.sum : Nat))), .pure (.int (R - A)), .pure (.int K), g'] := by
      have ok1 : okR (A + 1) = true := okR_int (by omega) (by omega)
      have ok2 : okR (R + 1) = true := okR_int (by omega) (by omega)
      have A1 : sFor (iR2 (lCons (dOp addD (dIxv 1 (dVar 4)) (dC (.int 1))) (lCons (dOp addD (dVar 3) (dC (.int 1))) lNil))) (gN 5) befI [.pure waysD, .pure (tI xs), .pure (.int p), .pure (.int R), .pure (.int K), b] = .nx [.pure waysD, .pure (tI xs), .pure (.int (p + (cum t.length t.sum : Nat))), .pure (.int R), .pure (.int K), g'] := by
        unfold tI
        rw [← hin]
        simp [-v_ix1, hat, ok1, ok2]
      show sSeq _ _ _ = _
      rw [seq_nx A1]
      unfold tI
      simp [-v_ix1, hat]
    rw [List.length_cons, List.range'_succ, List.map_cons, v_for_cons, v_gN]
    simp only [List.set_cons_succ, List.set_cons_zero]
    rw [← hK, body]
    dsimp only
    rw [ih, pl, hsub]
    simp [Int.add_assoc]
theorem before_ok {x : List Nat} (h2 : x.length ≤ 12) (hs : x.sum ≤ 32) : f__law_before [.p waysD, .p (tI x)] = .ok (.int (pl x x.sum : Nat)) [] := by
  obtain ⟨r, a', b', e⟩ := bef_loop (xs := x) x 0 0 (x.sum : Nat) .un .un rfl rfl hs h2
  have c3 : sumD (.tup (x.map nI)) = some (.int (x.sum : Int)) := by rw [← toI_iD, v_sum2, toI_sum]
  have hok : okR (x.length : Int) = true := okR_nat (by omega)
  rw [← List.range_eq_range', ← range0] at e
  simp only [f__law_before, v_runF]
  have hb : b__law_before [.pure waysD, .pure (tI x), .un, .un, .un, .un] = .rt (.int (pl x x.sum : Nat)) [.pure waysD, .pure (tI x), .pure (.int (0 + (pl x x.sum : Nat))), r, a', b'] := by
    unfold b__law_before
    have A : sSet 2 (dC (.int 0)) [.pure waysD, .pure (tI x), .un, .un, .un, .un] = .nx [.pure waysD, .pure (tI x), .pure (.int 0), .un, .un, .un] := by simp
    have B : sSet 3 (dCall1 sumD (dSee 1)) [.pure waysD, .pure (tI x), .pure (.int 0), .un, .un, .un] = .nx [.pure waysD, .pure (tI x), .pure (.int 0), .pure (.int (x.sum : Nat)), .un, .un] := by simp [tI, c3]
    have C : sFor (iR1 (lCons (dCall1 lenD (dSee 1)) lNil)) (gN 4) befF [.pure waysD, .pure (tI x), .pure (.int 0), .pure (.int (x.sum : Nat)), .un, .un] = .nx [.pure waysD, .pure (tI x), .pure (.int (0 + (pl x x.sum : Nat))), r, a', b'] := by
      rw [← e]
      simp [tI, hok]
    rw [seq_nx A, seq_nx B, seq_nx C]
    simp
  show (match b__law_before [.pure waysD, .pure (tI x), .un, .un, .un, .un] with
    | .nx st => _
    | .rt d st => _
    | .rf d st => _
    | .exc x _ => _
    | _ => _) = _
  rw [hb]
  rfl
end Q
set_option maxRecDepth 100000
set_option maxHeartbeats 4000000
/-! M93g: _law_placed says True. -/
namespace Q
open PySem PySem.Spec PyProof.Rows L2 U M93
theorem eq_pair (s : Str) (i : Int) (h : PyData.strOk s = true := by decide +kernel) : eqD (.tup [.str s, .int i]) (.tup [.str s, .int i]) = some (.bl true) := by
  simp [eqD, eqB, toPy, toPys, SeqAt.shaped, PyData.canLay0, PyData.canLayAll0, PyData.depth, PyData.depthAll, PyData.eqv, PyData.eqvAll, h]
theorem ne_pair (s : Str) (i : Int) (h : PyData.strOk s = true := by decide +kernel) : neD (.tup [.str s, .int i]) (.tup [.str s, .int i]) = some (.bl false) := by
  simp [neD, eqB, toPy, toPys, SeqAt.shaped, PyData.canLay0, PyData.canLayAll0, PyData.depth, PyData.depthAll, PyData.eqv, PyData.eqvAll, h]
theorem below_ok {a b c : Slot} (xs : List Int) (hl : xs.length ≤ 10000) : lcGo [4] (gN 4) (bdVal (dOp ltD (dVar 4) (dC (.int 0)))) (dVar 4) (xs.map iD) [] [a, b, c, .un, .un] = .ok ((xs.filter fun v => decide (v < 0)).map iD) [a, b, c, .un, .un] := by
  have e := lc_filter (vs := [4]) (t := gN 4) (ft := bdVal (dOp ltD (dVar 4) (dC (.int 0)))) (fe := dVar 4) (st0 := [a, b, c, .un, .un]) iD iD (fun v => decide (v < 0)) xs [] (fun v hv => ?_) ?_
  · simpa using e
  · refine ⟨[a, b, c, .un, .pure (.int v)], [a, b, c, .un, .pure (.int v)], by simp, by simp, fun _ => ⟨[a, b, c, .un, .pure (.int v)], by simp, by simp⟩, fun _ => by simp⟩
  · show 0 + _ ≤ 16777216
    omega
/-- natural numbers from ints that are none below 0 -/
theorem nat_of : ∀ (xs : List Int), (∀ v ∈ xs, 0 ≤ v) → ∃ x : List Nat, xs.map iD = x.map nI ∧ x.length = xs.length ∧ (x.sum : Int) = xs.sum
  | [], _ => ⟨[], rfl, rfl, rfl⟩
  | v :: xs, h => by
    obtain ⟨x, h1, h2, h3⟩ := nat_of xs fun w hw => h w (List.mem_cons_of_mem _ hw)
    have hv := h v List.mem_cons_self
    refine ⟨v.toNat :: x, ?_, by simp [h2], ?_⟩
    · rw [List.map_cons, List.map_cons, h1]
      have : ((v.toNat : Nat) : Int) = v := Int.toNat_of_nonneg hv
      unfold nI
      rw [this]
    · rw [List.sum_cons, List.sum_cons, ← h3]
      omega
theorem placed_ok (xs : List Int) (hl : xs.length ≤ 10000) : f__law_placed [.p waysD, .p (.tup (xs.map iD))] = .ok (.bl true) [] := by
  have hb := fun c => below_ok (a := .pure waysD) (b := .pure (.tup (xs.map iD))) (c := c) xs hl
  by_cases hlen : 1 ≤ (xs.length : Int) ∧ (xs.length : Int) ≤ 12
  · obtain ⟨h1, h2⟩ := hlen
    have n1 : ¬ ((xs.length : Int) < 1) := by omega
    have n2 : ¬ ((12 : Int) < (xs.length : Int)) := by omega
    cases hf : xs.find? (fun v => decide (v < 0)) with
    | some v =>
      have ha := ask2_err (b := .int 0) (e_exponent v) (place_neg h1 h2 hf)
      have hflt : ∃ r, xs.filter (fun v => decide (v < 0)) = v :: r := by
        rw [← List.head?_filter] at hf
        exact List.head?_eq_some_iff.mp hf
      obtain ⟨r, hr⟩ := hflt
      rw [hr] at hb
      have hat : ixD (.lst (.int v :: r.map iD)) (.int 0) = some (.int v) := by
        rw [v_ix2]
        exact U.atI_nat (i := 0) rfl
      have heq := eq_pair "BadExponent" v
      have hp : (0 : Int) < (r.length : Int) + 1 := by omega
      simp only [f__law_placed, v_runF, b__law_placed]
      simp [-v_ix2, ha, hb, hat, heq, n1, n2, hp]
    | none =>
      have hn : ∀ v ∈ xs, 0 ≤ v := fun v hv => by
        have := List.find?_eq_none.mp hf v hv
        simp at this
        exact this
      have hfl : xs.filter (fun v => decide (v < 0)) = [] := by
        rw [List.filter_eq_nil_iff]
        intro v hv
        have := hn v hv
        simp
        omega
      rw [hfl] at hb
      have c3 : sumD (.tup (xs.map iD)) = some (.int xs.sum) := v_sum2 xs
      by_cases hs : 32 < xs.sum
      · have ha := ask2_err (b := .int 0) (e_size xs.sum) (place_big h1 h2 hn hs)
        have heq := eq_pair "TooLarge" xs.sum
        simp only [f__law_placed, v_runF, b__law_placed]
        simp [ha, hb, heq, n1, n2, hs, c3]
      · obtain ⟨x, hx1, hx2, hx3⟩ := nat_of xs hn
        have hx : f_monomial_place [.p (.tup (x.map nI))] = .ok (.int (pl x x.sum : Nat)) [] := place_ok (x := x) (by omega) (by omega) (by omega)
        have hbf : f__law_before [.p waysD, .p (.tup (x.map nI))] = .ok (.int (pl x x.sum : Nat)) [] := before_ok (x := x) (by omega) (by omega)
        have ha := ask_place (b := .int 0) hx
        have heq := eq_pair "told" (pl x x.sum : Nat)
        have hi := law_int_int (pl x x.sum : Nat)
        have hat : ixD (.tup [.str "told", .int (pl x x.sum : Nat)]) (.int 1) = some (.int (pl x x.sum : Nat)) := by
          rw [v_ix1]
          exact U.atI_nat (i := 1) rfl
        rw [← hx1] at ha hbf
        generalize ((pl x x.sum : Nat) : Int) = z at ha heq hi hat hbf
        simp only [f__law_placed, v_runF, b__law_placed]
        simp [-v_ix1, ha, hb, heq, n1, n2, hs, c3, hbf, hat, hi]
  · have ha := ask2_err (b := .int 0) (e_count (xs.length : Int)) (place_len (ds := xs.map iD) (by rw [List.length_map]; exact hlen) |>.trans (by rw [List.length_map]))
    have heq := eq_pair "BadCount" (xs.length : Int)
    by_cases n1 : (xs.length : Int) < 1
    · simp only [f__law_placed, v_runF, b__law_placed]
      simp [ha, heq, n1]
    · have n2 : (12 : Int) < (xs.length : Int) := by omega
      simp only [f__law_placed, v_runF, b__law_placed]
      simp [ha, heq, n1, n2]
end Q
set_option maxRecDepth 100000
set_option maxHeartbeats 4000000
/-! M93h: _law_listed says True. -/
namespace Q
open PySem PySem.Spec PyProof.Rows L2 U M93
theorem toPys_ints : ∀ l : List Int, toPys (l.map .int) = some (l.map PyData.int)
  | [] => rfl
  | i :: l => by rw [List.map_cons, toPys, toPys_ints l]; rfl
theorem lay_ints : ∀ l : List Int, PyData.canLayAll0 (l.map PyData.int) = true
  | [] => by simp [PyData.canLayAll0]
  | i :: l => by rw [List.map_cons, PyData.canLayAll0, lay_ints l]; simp [PyData.canLay0]
theorem eqv_ints : ∀ l : List Int, PyData.eqvAll (l.map PyData.int) (l.map PyData.int) = true
  | [] => by simp [PyData.eqvAll]
  | i :: l => by rw [List.map_cons, PyData.eqvAll, eqv_ints l]; simp [PyData.eqv]
theorem eqB_ints (l : List Int) : eqB (.tup (l.map .int)) (.tup (l.map .int)) = some true := by
  have h1 : toPy (.tup (l.map .int)) = some (.tuple (l.map PyData.int)) := by rw [toPy, toPys_ints]; rfl
  have h2 : SeqAt.shaped (.tuple (l.map PyData.int)) = true := by
    have := depth_ints l
    simp [SeqAt.shaped, PyData.canLay0, lay_ints, PyData.depth]
    omega
  unfold eqB
  rw [h1]
  dsimp only
  rw [h2, Bool.and_self, if_pos rfl, PyData.eqv, eqv_ints]
theorem tI_int (x : List Nat) : tI x = .tup ((toI x).map .int) := by
  unfold tI
  rw [← toI_iD]
theorem eq_tI (x : List Nat) : eqD (tI x) (tI x) = some (.bl true) := by
  rw [tI_int]; unfold eqD; rw [eqB_ints]; rfl
theorem ne_tI (x : List Nat) : neD (tI x) (tI x) = some (.bl false) := by
  rw [tI_int]; unfold neD; rw [eqB_ints]; rfl
theorem all_true {α : Type} (ms : List α) : allD (.lst (ms.map fun _ => D.bl true)) = some (.bl true) := by
  have := v_all (ms.map fun _ => true)
  rw [List.map_map] at this
  have e : (ms.map fun _ => D.bl true) = ms.map (D.bl ∘ fun _ => true) := rfl
  rw [e, this]
  congr 2
  rw [List.all_map]
  simp
section
variable {N d0 g : Int} {c a : D} {l : List (List Nat)}
def stL (N d0 g : Int) (c a t : Slot) : DSt := [.pure waysD, .pure (.int N), .pure (.int d0), .pure (.int g), c, a, t, .un, .un, .un, .un, .un]
theorem chk1 {c a : Slot} (h : ∀ x ∈ l, (x.length : Int) = N) (hl : l.length ≤ 10000) : dCall1 allD (dLc (iSq (dVar 6)) [9] (gN 9) bdYes (dAnd (dCall1 (isTD ty_tuple) (dSee 9)) (dOp eqD (dCall1 lenD (dSee 9)) (dVar 1)))) (stL N d0 g c a (.fr (.lst (l.map tI)))) = .ok (.bl true) (stL N d0 g c a (.fr (.lst (l.map tI)))) := by
  have e := lc_map (vs := [9]) (t := gN 9) (ft := bdYes) (fe := dAnd (dCall1 (isTD ty_tuple) (dSee 9)) (dOp eqD (dCall1 lenD (dSee 9)) (dVar 1))) (st0 := stL N d0 g c a (.fr (.lst (l.map tI)))) tI (fun _ => D.bl true) l [] (fun x hx => ?_) (by show 0 + _ ≤ 16777216; omega)
  · unfold stL at e ⊢
    simp [e, all_true]
  · have ht : isTD ty_tuple (tI x) = some (.bl true) := rfl
    have hlen : lenD (tI x) = some (.int N) := by unfold tI; rw [v_len2, List.length_map, h x hx]
    refine ⟨(stL N d0 g c a (.fr (.lst (l.map tI)))).set 9 (.pure (tI x)), (stL N d0 g c a (.fr (.lst (l.map tI)))).set 9 (.pure (tI x)), rfl, rfl, ?_, by simp [stL]⟩
    simp [stL, ht, hlen]
theorem chk2 {c a : Slot} (hx : ∀ x ∈ l, x.length ≤ 100) (hl : l.length ≤ 10000) : dCall1 allD (dLc (iSq (dVar 6)) [9] (gN 9) bdYes (dCall1 allD (dLc (iSq (dVar 9)) [10] (gN 10) bdYes (dAnd (dCallU f__law_int (lenIs 1 (aV (dVar 10) aNil))) (dOp geD (dVar 10) (dC (.int 0))))))) (stL N d0 g c a (.fr (.lst (l.map tI)))) = .ok (.bl true) (stL N d0 g c a (.fr (.lst (l.map tI)))) := by
  have e := lc_map (vs := [9]) (t := gN 9) (ft := bdYes) (fe := dCall1 allD (dLc (iSq (dVar 9)) [10] (gN 10) bdYes (dAnd (dCallU f__law_int (lenIs 1 (aV (dVar 10) aNil))) (dOp geD (dVar 10) (dC (.int 0)))))) (st0 := stL N d0 g c a (.fr (.lst (l.map tI)))) tI (fun _ => D.bl true) l [] (fun x hx' => ?_) (by show 0 + _ ≤ 16777216; omega)
  · unfold stL at e ⊢
    simp [e, all_true]
  · refine ⟨(stL N d0 g c a (.fr (.lst (l.map tI)))).set 9 (.pure (tI x)), (stL N d0 g c a (.fr (.lst (l.map tI)))).set 9 (.pure (tI x)), rfl, rfl, ?_, by simp [stL]⟩
    have e2 := lc_map (vs := [10]) (t := gN 10) (ft := bdYes) (fe := dAnd (dCallU f__law_int (lenIs 1 (aV (dVar 10) aNil))) (dOp geD (dVar 10) (dC (.int 0)))) (st0 := (stL N d0 g c a (.fr (.lst (l.map tI)))).set 9 (.pure (tI x))) nI (fun _ => D.bl true) x [] (fun n hn => ?_) (by have := hx x hx'; show 0 + _ ≤ 16777216; omega)
    · unfold stL at e2 ⊢
      unfold tI at e2 ⊢
      simp [e2, all_true] at e2 ⊢
    · have hp : (0 : Int) ≤ (n : Int) := Int.natCast_nonneg n
      refine ⟨((stL N d0 g c a (.fr (.lst (l.map tI)))).set 9 (.pure (tI x))).set 10 (.pure (nI n)), ((stL N d0 g c a (.fr (.lst (l.map tI)))).set 9 (.pure (tI x))).set 10 (.pure (nI n)), rfl, rfl, ?_, by simp [stL]⟩
      simp [stL, nI, law_int_int, hp]
theorem chk3 {c a : Slot} (h : ∀ x ∈ l, (x.sum : Int) = d0) (hl : l.length ≤ 10000) : dCall1 allD (dLc (iSq (dVar 6)) [9] (gN 9) bdYes (dOp eqD (dCall1 sumD (dSee 9)) (dVar 2))) (stL N d0 g c a (.fr (.lst (l.map tI)))) = .ok (.bl true) (stL N d0 g c a (.fr (.lst (l.map tI)))) := by
  have e := lc_map (vs := [9]) (t := gN 9) (ft := bdYes) (fe := dOp eqD (dCall1 sumD (dSee 9)) (dVar 2)) (st0 := stL N d0 g c a (.fr (.lst (l.map tI)))) tI (fun _ => D.bl true) l [] (fun x hx => ?_) (by show 0 + _ ≤ 16777216; omega)
  · unfold stL at e ⊢
    simp [e, all_true]
  · have hs : sumD (tI x) = some (.int d0) := by rw [tI_int, v_sum2, toI_sum, h x hx]
    refine ⟨(stL N d0 g c a (.fr (.lst (l.map tI)))).set 9 (.pure (tI x)), (stL N d0 g c a (.fr (.lst (l.map tI)))).set 9 (.pure (tI x)), rfl, rfl, ?_, by simp [stL]⟩
    simp [stL, hs]
theorem gt_ints {x y : List Int} (h : y < x) : gtAD (.lst (x.map .int)) (.lst (y.map .int)) = some (.bl true) := by
  show ((none : Option D).or (match intsOf (x.map .int), intsOf (y.map .int) with
    | some l, some m => some (D.bl (decide (m < l)))
    | _, _ => none)) = _
  rw [intsOf_map, intsOf_map]
  simp [h]
theorem chk4 {c a : Slot} (hd : l.Pairwise fun a b => toI b < toI a) (hg : g = l.length) (hl : l.length ≤ 10000) (h1 : 1 ≤ l.length) : dCall1 allD (dLc (iR1 (lCons (dOp subD (dVar 3) (dC (.int 1))) lNil)) [11] (gN 11) bdYes (dOp gtAD (dCall1 lstD (dIxv 6 (dVar 11))) (dCall1 lstD (dIxv 6 (dOp addD (dVar 11) (dC (.int 1))))))) (stL N d0 g c a (.fr (.lst (l.map tI)))) = .ok (.bl true) (stL N d0 g c a (.fr (.lst (l.map tI)))) := by
  have e := lc_map (vs := [11]) (t := gN 11) (ft := bdYes) (fe := dOp gtAD (dCall1 lstD (dIxv 6 (dVar 11))) (dCall1 lstD (dIxv 6 (dOp addD (dVar 11) (dC (.int 1)))))) (st0 := stL N d0 g c a (.fr (.lst (l.map tI)))) (fun i : Nat => D.int (i : Int)) (fun _ => D.bl true) (List.range (l.length - 1)) [] (fun k hk => ?_) (by rw [List.length_range]; show 0 + _ ≤ 16777216; omega)
  · have ok : okR (g - 1) = true := okR_int (by omega) (by omega)
    have hr : rangeD 0 (g - 1) = (List.range (l.length - 1)).map fun i : Nat => D.int (i : Int) := by
      rw [← range0]
      congr 1
      omega
    unfold stL at e ⊢
    simp only [v_dCall1, v_dLc, v_iR1, v_lCons, v_lNil, v_dOp, v_dVar, v_dC, List.getElem?_cons_succ, List.getElem?_cons_zero, v_bind_ok, U.v_sub, v_opt_some, ok, if_true, hr, v_un1, v_un0, List.set_cons_succ, List.set_cons_zero]
    rw [e]
    simp [all_true]
  · rw [List.mem_range] at hk
    obtain ⟨x, hx⟩ : ∃ x, l[k]? = some x := ⟨l[k], List.getElem?_eq_getElem (by omega)⟩
    obtain ⟨y, hy⟩ : ∃ y, l[k + 1]? = some y := ⟨l[k + 1], List.getElem?_eq_getElem (by omega)⟩
    have hlt : toI y < toI x := by
      rw [List.pairwise_iff_getElem] at hd
      have h2 : k + 1 < l.length := by omega
      have h3 : k < l.length := by omega
      have z := hd k (k + 1) h3 h2 (Nat.lt_succ_self k)
      rw [List.getElem?_eq_getElem h3] at hx
      rw [List.getElem?_eq_getElem h2] at hy
      rwa [Option.some.inj hx, Option.some.inj hy] at z
    have i1 : ixD (.lst (l.map tI)) (.int (k : Int)) = some (tI x) := by
      rw [v_ix2]
      exact U.atI_nat (by rw [List.getElem?_map, hx]; rfl)
    have i2 : ixD (.lst (l.map tI)) (.int ((k : Int) + 1)) = some (tI y) := by
      rw [v_ix2]
      exact U.atI_nat (i := k + 1) (by rw [List.getElem?_map, hy]; rfl)
    have l1 : ∀ z, lstD (tI z) = some (.lst ((toI z).map .int)) := fun z => by rw [tI_int]; rfl
    refine ⟨(stL N d0 g c a (.fr (.lst (l.map tI)))).set 11 (.pure (.int (k : Int))), (stL N d0 g c a (.fr (.lst (l.map tI)))).set 11 (.pure (.int (k : Int))), rfl, rfl, ?_, by simp [stL]⟩
    simp [-v_ix2, stL, i1, i2, l1, gt_ints hlt]
end
/-! ### the whole -/
theorem noL_ints (x : List Nat) : noL (tI x) = true := by
  have : ∀ l : List Nat, noLs (l.map nI) = true := by
    intro l
    induction l with
    | nil => rfl
    | cons a l ih => rw [List.map_cons, noLs, ih]; rfl
  unfold tI
  rw [noL, this]
theorem noLs_tI : ∀ l : List (List Nat), noLs (l.map tI) = true
  | [] => rfl
  | x :: l => by rw [List.map_cons, noLs, noL_ints, noLs_tI l]; rfl
theorem eq_str (s : Str) (h : PyData.strOk s = true := by decide +kernel) : eqD (.str s) (.str s) = some (.bl true) := by
  simp [eqD, eqB, toPy, SeqAt.shaped, PyData.canLay0, PyData.depth, PyData.eqv, h]
theorem ne_str (s : Str) (h : PyData.strOk s = true := by decide +kernel) : neD (.str s) (.str s) = some (.bl false) := by
  simp [neD, eqB, toPy, SeqAt.shaped, PyData.canLay0, PyData.depth, PyData.eqv, h]
theorem listed_big {N d0 : Int} {n d : Nat} (hN : N = n) (hd : d0 = d) (h1 : 1 ≤ n) (h2 : n ≤ 12) (h4 : d ≤ 32) (hw : 1000 < wy n d) : f__law_listed [.p waysD, .p (.int N), .p (.int d0)] = .ok (.bl true) [] := by
  have hc := count_int hN hd h1 h2 h4
  have hm := monomials_big hN hd h1 h2 h4 hw
  have a1 := ask_count hc
  have a0 := ask0_err (e_size _) hm
  have w1 : ixD waysD (.int N) = some (.lst ((wyL n).map nI)) := by rw [hN]; exact ways_at (by omega)
  have w2 : ixD (.lst ((wyL n).map nI)) (.int d0) = some (.int (wy n d : Nat)) := by rw [hd]; exact row_at (by omega)
  generalize hg : ((wy n d : Nat) : Int) = g at *
  have hgt : (1000 : Int) < g := by omega
  have p1 := ne_pair "told" g
  have p2 := eq_pair "TooLarge" g
  have hi := law_int_int g
  have hat : ixD (.tup [.str "told", .int g]) (.int 1) = some (.int g) := by
    rw [v_ix1]
    exact U.atI_nat (i := 1) rfl
  simp only [f__law_listed, v_runF]
  simp [-v_ix1, -v_ix2, b__law_listed, w1, w2, a1, p1, hi, hat, sSetN, a0, hgt, p2]
theorem listed_small {N d0 : Int} {n d : Nat} (hN : N = n) (hd : d0 = d) (h1 : 1 ≤ n) (h2 : n ≤ 12) (h4 : d ≤ 32) (hw : wy n d ≤ 1000) : f__law_listed [.p waysD, .p (.int N), .p (.int d0)] = .ok (.bl true) [] := by
  have hc := count_int hN hd h1 h2 h4
  have hm := monomials_ok hN hd h1 h2 h4 hw
  have a1 := ask_count hc
  have a0 := ask_list hm
  have w1 : ixD waysD (.int N) = some (.lst ((wyL n).map nI)) := by rw [hN]; exact ways_at (by omega)
  have w2 : ixD (.lst ((wyL n).map nI)) (.int d0) = some (.int (wy n d : Nat)) := by rw [hd]; exact row_at (by omega)
  have hlen := mon_length n d
  have hpos : 1 ≤ wy n d := by
    obtain ⟨m, rfl⟩ : ∃ m, n = m + 1 := ⟨n - 1, by omega⟩
    exact wy_pos m d
  have hmem := mon_mem n d
  have hdesc := mon_desc n d
  generalize mon n d = l at *
  have hgl : ((wy n d : Nat) : Int) = l.length := by omega
  generalize hg : ((wy n d : Nat) : Int) = g at *
  obtain ⟨x0, l', rfl⟩ : ∃ x l', l = x :: l' := by
    cases l with
    | nil => simp at hlen; omega
    | cons x l' => exact ⟨x, l', rfl⟩
  have hgt : ¬ (1000 : Int) < g := by omega
  have p1 := ne_pair "told" g
  have hi := law_int_int g
  have hat : ixD (.tup [.str "told", .int g]) (.int 1) = some (.int g) := by
    rw [v_ix1]
    exact U.atI_nat (i := 1) rfl
  have b0 : ∀ L : List D, ixD (.tup [.str "told", .lst L]) (.int 0) = some (.str "told") := fun L => by
    rw [v_ix1]
    exact U.atI_nat (i := 0) rfl
  have b1 : ∀ L : List D, ixD (.tup [.str "told", .lst L]) (.int 1) = some (.lst L) := fun L => by
    rw [v_ix1]
    exact U.atI_nat (i := 1) rfl
  have s1 := ne_str "told"
  have s2 := eq_str "told"
  have c1 := chk1 (N := N) (d0 := d0) (g := g) (l := x0 :: l') (c := .pure (.tup [.str "told", .int g])) (a := .fr (.tup [.str "told", .lst ((x0 :: l').map tI)])) (fun x hx => by rw [(hmem x hx).1]; omega) (by omega)
  have c2 := chk2 (N := N) (d0 := d0) (g := g) (l := x0 :: l') (c := .pure (.tup [.str "told", .int g])) (a := .fr (.tup [.str "told", .lst ((x0 :: l').map tI)])) (fun x hx => by rw [(hmem x hx).1]; omega) (by omega)
  have c3 := chk3 (N := N) (d0 := d0) (g := g) (l := x0 :: l') (c := .pure (.tup [.str "told", .int g])) (a := .fr (.tup [.str "told", .lst ((x0 :: l').map tI)])) (fun x hx => by rw [(hmem x hx).2]; omega) (by omega)
  have c4 := chk4 (N := N) (d0 := d0) (g := g) (l := x0 :: l') (c := .pure (.tup [.str "told", .int g])) (a := .fr (.tup [.str "told", .lst ((x0 :: l').map tI)])) hdesc hgl (by omega) (by omega)
  generalize hL : (x0 :: l').map tI = L at *
  have hLl : (L.length : Int) = g := by rw [← hL, List.length_map]; omega
  have hL0 : ixD (.lst L) (.int 0) = some (tI x0) := by
    rw [v_ix2, ← hL]
    exact U.atI_nat (i := 0) rfl
  have tl : isTD ty_list (.lst L) = some (.bl true) := rfl
  have lenL : lenD (.lst L) = some (.int g) := by rw [v_len1, hLl]
  have nL : noLs L = true := by rw [← hL]; exact noLs_tI _
  have n0 : noL (tI x0) = true := noL_ints x0
  have nw : noL waysD = false := rfl
  have e0 := eq_tI x0
  have hll : L.length < 16777216 := by omega
  have hlp : 0 < L.length := by omega
  have chkIf : ∀ {X : DE} {T : DSt}, X T = .ok (.bl true) T → sIf (bdNot (bdVal X)) (sRet (dC (.bl false))) sNil T = .nx T := fun {X T} h => by
    rw [v_sIf, v_bdNot, v_bdVal, h]
    rfl
  obtain ⟨T, hT⟩ : ∃ T, T = stL N d0 g (.pure (.tup [.str "told", .int g])) (.fr (.tup [.str "told", .lst L])) (.fr (.lst L)) := ⟨_, rfl⟩
  rw [← hT] at c1 c2 c3 c4
  have front : ∀ R : DS, sSeq (sSet 3 (dOp ixD (dIxv 0 (dVar 1)) (dVar 2))) (sSeq (sSet 4 (dCallU f__law_ask (lenIs 3 (aV (dC (.int 1)) (aV (dVar 1) (aV (dVar 2) aNil)))))) (sSeq (sIf (bdOr (bdVal (dOp neD (dVar 4) (dTup (lCons (dC (.str "told")) (lCons (dVar 3) lNil))))) (bdNot (bdVal (dCallU f__law_int (lenIs 1 (aV (dIxv 4 (dC (.int 1))) aNil)))))) (sRet (dC (.bl false))) sNil)
      (sSeq (sSetN 5 f__law_ask 3 (lCons (dC (.int 0)) (lCons (dVar 1) (lCons (dVar 2) lNil)))) (sSeq (sIf (bdVal (dOp gtD (dVar 3) (dC (.int 1000)))) (sRet (dOp eqD (dVar 5) (dTup (lCons (dC (.str "TooLarge")) (lCons (dVar 3) lNil))))) sNil) (sSeq (sIf (bdOr (bdVal (dOp neD (dIxv 5 (dC (.int 0))) (dC (.str "told")))) (bdOr (bdNot (bdVal (dCall1 (isTD ty_list) (dIxv 5 (dC (.int 1)))))) (bdVal (dOp neD (dCall1 lenD (dIxv 5 (dC (.int 1)))) (dVar 3))))) (sRet (dC (.bl false))) sNil) (sSeq (sUnp 5 6) R))))))
      [.pure waysD, .pure (.int N), .pure (.int d0), .un, .un, .un, .un, .un, .un, .un, .un, .un] = R T := fun R => by
    rw [hT]
    simp [-v_ix1, -v_ix2, w1, w2, a1, p1, hi, hat, sSetN, a0, hgt, b0, b1, s1, tl, lenL, sUnp, stL]
  have tail : ∀ T', T' = T → sSeq (sSet 7 (dIxv 6 (dC (.int 0)))) (sSeq (sThaw 6) (sSeq (sDrop (dApp 6 (dTup (lCons (dC (.int 1)) lNil)))) (sSeq (sPut 6 (dTup (lCons (dC (.int 0)) lNil)) (dC (.int 0))) (sSeq (sSet 8 (dCallU f__law_ask (lenIs 3 (aV (dC (.int 0)) (aV (dVar 1) (aV (dVar 2) aNil)))))) (sRet (dAnd (dOp eqD (dIxv 8 (dC (.int 0))) (dC (.str "told"))) (dAnd (dOp eqD (dCall1 lenD (dIxv 8 (dC (.int 1)))) (dVar 3)) (dOp eqD (dOp ixD (dIxv 8 (dC (.int 1))) (dC (.int 0))) (dVar 7))))))))) T' = .rt (.bl true) [.un, .pure (.int N), .pure (.int d0), .pure (.int g), .pure (.tup [.str "told", .int g]), .un, .cell (.lst ((L ++ [D.tup [D.int 1]]).set 0 (D.tup [D.int 0]))), .pure (tI x0), .pure (.tup [.str "told", .lst L]), .un, .un, .un] := fun T' e => by
    rw [e, hT]
    have ix0 : ixN (L.length + 1) 0 = some 0 := by
      unfold ixN
      rw [if_pos (by omega), if_pos (by omega)]
      rfl
    simp [-v_ix1, -v_ix2, stL, hL0, sThaw, thawD, nL, Slot.dry, nw, n0, noL, noLs, hll, ix0, a0, b0, b1, s2, lenL, e0]
  have hb : b__law_listed [.pure waysD, .pure (.int N), .pure (.int d0), .un, .un, .un, .un, .un, .un, .un, .un, .un] = .rt (.bl true) [.un, .pure (.int N), .pure (.int d0), .pure (.int g), .pure (.tup [.str "told", .int g]), .un, .cell (.lst ((L ++ [D.tup [D.int 1]]).set 0 (D.tup [D.int 0]))), .pure (tI x0), .pure (.tup [.str "told", .lst L]), .un, .un, .un] := by
    unfold b__law_listed
    rw [front, seq_nx (chkIf c1), seq_nx (chkIf c2), seq_nx (chkIf c3), seq_nx (chkIf c4), tail T rfl]
  simp only [f__law_listed, v_runF]
  show (match b__law_listed [.pure waysD, .pure (.int N), .pure (.int d0), .un, .un, .un, .un, .un, .un, .un, .un, .un] with
    | .nx st => _
    | .rt d st => _
    | .rf d st => _
    | .exc x _ => _
    | _ => _) = _
  rw [hb]
  rfl
theorem listed_ok {N d0 : Int} {n d : Nat} (hN : N = n) (hd : d0 = d) (h1 : 1 ≤ n) (h2 : n ≤ 12) (h4 : d ≤ 32) : f__law_listed [.p waysD, .p (.int N), .p (.int d0)] = .ok (.bl true) [] := by
  rcases Nat.lt_or_ge 1000 (wy n d) with h | h
  · exact listed_big hN hd h1 h2 h4 h
  · exact listed_small hN hd h1 h2 h4 h
end Q
set_option maxRecDepth 100000
set_option maxHeartbeats 4000000
/-! M93i: the pool of drawn numbers. -/
namespace Q
open PySem PySem.Spec PyProof.Rows L2 U M93
def poolD (a b : Int) (cells : List Int) (p t : Int) : D := .lst [.int a, .int b, .lst (cells.map iD), .int p, .int t]
/-- a pool that k draws more are good for -/
def PoolOk (k : Nat) (d : D) : Prop := ∃ a b cells p t, d = poolD a b cells p t ∧ 0 ≤ p ∧ p + 70 * k ≤ 1000000000 ∧ t.natAbs < 2 ^ 60
theorem log_lt {n : Nat} {k : Nat} (h : n < 2 ^ k) (hk : 0 < k) : n.log2 < k := by
  by_cases h0 : n = 0
  · subst h0; simpa using hk
  · exact (Nat.log2_lt h0).mpr h
theorem mul_ok {a b : Int} (ha : a.natAbs < 2 ^ 100) (hb : b.natAbs < 2 ^ 100) : mulD (.int a) (.int b) = some (.int (a * b)) := by
  have h1 := log_lt ha (by omega)
  have h2 := log_lt hb (by omega)
  rw [U.v_mul, if_pos (by rw [decide_eq_true_eq]; omega)]
theorem mod_ok {a b : Int} (h : 0 < b) : modD (.int a) (.int b) = some (.int (a % b)) := by
  rw [U.v_mod, if_pos (by rw [decide_eq_true_eq]; exact h)]
section
variable {a b p t m : Int} {cells : List Int}
theorem pool_ix0 : ixD (poolD a b cells p t) (.int 0) = some (.int a) := by unfold poolD; rw [v_ix2]; exact U.atI_nat (i := 0) rfl
theorem pool_ix1 : ixD (poolD a b cells p t) (.int 1) = some (.int b) := by unfold poolD; rw [v_ix2]; exact U.atI_nat (i := 1) rfl
theorem pool_ix2 : ixD (poolD a b cells p t) (.int 2) = some (.lst (cells.map iD)) := by unfold poolD; rw [v_ix2]; exact U.atI_nat (i := 2) rfl
theorem pool_ix3 : ixD (poolD a b cells p t) (.int 3) = some (.int p) := by unfold poolD; rw [v_ix2]; exact U.atI_nat (i := 3) rfl
theorem pool_ix4 : ixD (poolD a b cells p t) (.int 4) = some (.int t) := by unfold poolD; rw [v_ix2]; exact U.atI_nat (i := 4) rfl
theorem pool_put0 {x : Int} : putD (poolD a b cells p t) (.int 0) (.int x) = some (poolD x b cells p t) := rfl
theorem pool_put1 {x : Int} : putD (poolD a b cells p t) (.int 1) (.int x) = some (poolD a x cells p t) := rfl
theorem pool_put3 {x : Int} : putD (poolD a b cells p t) (.int 3) (.int x) = some (poolD a b cells x t) := rfl
abbrev drawF : DS := sSeq (sIf (bdAnd (bdVal (dOp gtD (dIxv 0 (dC (.int 0))) (dC (.int 0)))) (bdVal (dOp ltD (dIxv 0 (dC (.int 1))) (dC (.int 60))))) sBk sNil) (sSeq (sSet 3 (dIxv 0 (dC (.int 3)))) (sSeq (sPut 0 (dOp addD (dVar 3) (dC (.int 1))) (dC (.int 3))) (sSeq (sPut 0 (dC (.int 0)) (dC (.int 1))) (sIf (bdVal (dOp ltD (dVar 3) (dCall1 lenD (dIxv 0 (dC (.int 2)))))) (sPut 0 (dOp ixD (dIxv 0 (dC (.int 2))) (dVar 3)) (dC (.int 0))) (sSeq (sSet 4 (dOp modD (dCall1 intD (dOp addD (dOp addD (dOp mulD (dIxv 0 (dC (.int 4))) (dC (.int 48271))) (dOp mulD (dVar 3) (dC (.int 69621)))) (dC (.int 105)))) (dC (.int 2147483647)))) (sPut 0 (dOp addD (dOp modD (dCall1 intD (dOp powD (dOp addD (dVar 4) (dOp powD (dC (.int 2)) (dC (.int 40)))) (dC (.int 9)))) (dOp addD (dOp powD (dC (.int 10)) (dC (.int 60))) (dC (.int 7)))) (dC (.int 1))) (dC (.int 0))))))))
theorem draw_turn {x2 x3 x4 x5 : Slot} (hp : 0 ≤ p) (hp2 : p < 2 ^ 60) (ht : t.natAbs < 2 ^ 60) :
    drawF [.io 0 (poolD a b cells p t), .pure (.int m), x2, x3, x4, x5] = .bk [.io 0 (poolD a b cells p t), .pure (.int m), x2, x3, x4, x5] ∨
      ∃ a' y3 y4, drawF [.io 0 (poolD a b cells p t), .pure (.int m), x2, x3, x4, x5] = .nx [.io 0 (poolD a' 0 cells (p + 1) t), .pure (.int m), x2, y3, y4, x5] := by
  by_cases h : 0 < a ∧ b < 60
  · left
    simp [-v_ix1, -v_ix2, pool_ix0, pool_ix1, h.1, h.2]
  · right
    have hc : sIf (bdAnd (bdVal (dOp gtD (dIxv 0 (dC (.int 0))) (dC (.int 0)))) (bdVal (dOp ltD (dIxv 0 (dC (.int 1))) (dC (.int 60))))) sBk sNil [.io 0 (poolD a b cells p t), .pure (.int m), x2, x3, x4, x5] = .nx [.io 0 (poolD a b cells p t), .pure (.int m), x2, x3, x4, x5] := by
      by_cases h1 : 0 < a
      · have h2 : ¬ b < 60 := fun z => h ⟨h1, z⟩
        simp [-v_ix1, -v_ix2, pool_ix0, pool_ix1, h1, h2]
      · simp [-v_ix1, -v_ix2, pool_ix0, pool_ix1, h1]
    by_cases hl : p < (cells.length : Int)
    · obtain ⟨n, hn⟩ : ∃ n : Nat, p = n := ⟨p.toNat, by omega⟩
      have hn2 : n < cells.length := by omega
      have hat : ixD (.lst (cells.map iD)) (.int p) = some (.int cells[n]) := by
        rw [v_ix2, hn]
        exact U.atI_nat (by rw [List.getElem?_map, List.getElem?_eq_getElem hn2]; rfl)
      refine ⟨cells[n], .pure (.int p), x4, ?_⟩
      show sSeq _ _ _ = _
      rw [seq_nx hc]
      simp [-v_ix1, -v_ix2, -v_put, pool_ix0, pool_ix1, pool_ix2, pool_ix3, pool_put0, pool_put1, pool_put3, hl, hat]
    · have m1 := mul_ok (a := t) (b := 48271) (by omega) (by decide)
      have m2 := mul_ok (a := p) (b := 69621) (by omega) (by decide)
      have m3 := mod_ok (a := t * 48271 + p * 69621 + 105) (b := 2147483647) (by decide)
      have k1 := Int.emod_nonneg (t * 48271 + p * 69621 + 105) (show (2147483647 : Int) ≠ 0 by decide)
      have k2 := Int.emod_lt_of_pos (t * 48271 + p * 69621 + 105) (show (0 : Int) < 2147483647 by decide)
      generalize (t * 48271 + p * 69621 + 105) % 2147483647 = z at m3 k1 k2
      have p1 : powD (.int 2) (.int 40) = some (.int (2 ^ 40)) := rfl
      have p2 : powD (.int 10) (.int 60) = some (.int (10 ^ 60)) := rfl
      have p3 : powD (.int (z + 2 ^ 40)) (.int 9) = some (.int ((z + 2 ^ 40) ^ 9)) := by
        rw [U.v_pow, if_pos]
        · rfl
        · simp only [Bool.and_eq_true, decide_eq_true_eq]
          exact ⟨⟨by decide, by decide⟩, by omega⟩
      have m4 := mod_ok (a := (z + 2 ^ 40) ^ 9) (b := 10 ^ 60 + 7) (by decide)
      refine ⟨(z + 2 ^ 40) ^ 9 % (10 ^ 60 + 7) + 1, .pure (.int p), .pure (.int z), ?_⟩
      show sSeq _ _ _ = _
      rw [seq_nx hc]
      generalize hA : (2 : Int) ^ 40 = A at p1 p3 m4 ⊢
      generalize hB : (10 : Int) ^ 60 = B at p2 m4 ⊢
      simp [-v_ix1, -v_ix2, -v_put, -U.v_mul, -U.v_mod, -U.v_pow, pool_ix0, pool_ix1, pool_ix2, pool_ix3, pool_ix4, pool_put0, pool_put1, pool_put3, hl, m1, m2, m3, p1, p2, p3, m4]
theorem draw_loop (hp : 0 ≤ p) (hp2 : p + 70 < 2 ^ 60) (ht : t.natAbs < 2 ^ 60) : ∃ a' b' p' x2 x3 x4, sFor' (gN 2) drawF (rangeD 0 70) [.io 0 (poolD a b cells p t), .pure (.int m), .un, .un, .un, .un] = .nx [.io 0 (poolD a' b' cells p' t), .pure (.int m), x2, x3, x4, .un] ∧ 0 ≤ p' ∧ p' ≤ p + 70 := by
  have hr : rangeD 0 70 = (List.range 70).map fun i : Nat => D.int (i : Int) := range0 70
  rw [hr]
  refine for_inv (t := gN 2) (F := drawF) (fun i : Nat => D.int (i : Int)) (fun i st => ∃ a' b' p' x2 x3 x4, st = [.io 0 (poolD a' b' cells p' t), .pure (.int m), x2, x3, x4, .un] ∧ 0 ≤ p' ∧ p' ≤ p + i)
    (fun r => ∃ a' b' p' x2 x3 x4, r = SX.nx [.io 0 (poolD a' b' cells p' t), .pure (.int m), x2, x3, x4, .un] ∧ 0 ≤ p' ∧ p' ≤ p + 70) (List.range 70) 0 _ (fun i st j hj ⟨a', b', p', x2, x3, x4, e, h1, h2⟩ => ?_) (fun st ⟨a', b', p', x2, x3, x4, e, h1, h2⟩ => ?_) ⟨a, b, p, .un, .un, .un, rfl, hp, by omega⟩
  · have hi : i < 70 := by
      have := (List.getElem?_eq_some_iff.mp hj).1
      rwa [List.length_range] at this
    subst e
    refine ⟨[.io 0 (poolD a' b' cells p' t), .pure (.int m), .pure (.int (j : Int)), x3, x4, .un], by simp, ?_⟩
    rcases draw_turn (a := a') (b := b') (p := p') (t := t) (m := m) (cells := cells) (x2 := .pure (.int (j : Int))) (x3 := x3) (x4 := x4) (x5 := .un) h1 (by omega) ht with h | ⟨a2, y3, y4, h⟩
    · exact .inr ⟨_, h, a', b', p', _, _, _, rfl, h1, by omega⟩
    · exact .inl ⟨_, h, a2, 0, p' + 1, _, _, _, rfl, by omega, by omega⟩
  · subst e
    rw [List.length_range, Nat.zero_add] at h2
    exact ⟨a', b', p', x2, x3, x4, rfl, h1, by omega⟩
theorem draw_ok {k : Nat} {pd : D} (h : PoolOk (k + 1) pd) (hm : 1 ≤ m) (hm2 : m < 2 ^ 64) : ∃ digit pd', f__law_draw [.c pd, .p (.int m)] = .ok (.int digit) [pd'] ∧ 0 ≤ digit ∧ digit < m ∧ PoolOk k pd' := by
  obtain ⟨a, b, cells, p, t, rfl, h1, h2, h3⟩ := h
  obtain ⟨a', b', p', x2, x3, x4, hl, k1, k2⟩ := draw_loop (a := a) (b := b) (p := p) (t := t) (m := m) (cells := cells) h1 (by omega) h3
  have g1 := mod_ok (a := a') (b := m) (by omega)
  have g2 : fdivD (.int a') (.int m) = some (.int (a' / m)) := by
    rw [U.v_fdiv, if_pos]
    have := log_lt (n := m.natAbs) (k := 64) (by omega) (by omega)
    simp only [Bool.and_eq_true, decide_eq_true_eq]
    omega
  have ok : okR 70 = true := by decide
  refine ⟨a' % m, poolD (a' / m) (b' + 1) cells p' t, ?_, Int.emod_nonneg _ (by omega), Int.emod_lt_of_pos _ (by omega), _, _, _, _, _, rfl, k1, by omega, h3⟩
  have hb : b__law_draw [.io 0 (poolD a b cells p t), .pure (.int m), .un, .un, .un, .un] = .rt (.int (a' % m)) [.io 0 (poolD (a' / m) (b' + 1) cells p' t), .pure (.int m), x2, x3, x4, .pure (.int (a' % m))] := by
    have A : sFor (iR1 (lCons (dC (.int 70)) lNil)) (gN 2) drawF [.io 0 (poolD a b cells p t), .pure (.int m), .un, .un, .un, .un] = .nx [.io 0 (poolD a' b' cells p' t), .pure (.int m), x2, x3, x4, .un] := by
      rw [← hl]
      simp [ok]
    show sSeq _ _ _ = _
    rw [seq_nx A]
    simp [-v_ix1, -v_ix2, -v_put, -U.v_mod, -U.v_fdiv, pool_ix0, pool_ix1, pool_put0, pool_put1, g1, g2]
  simp only [f__law_draw, v_runF]
  show (match b__law_draw [.io 0 (poolD a b cells p t), .pure (.int m), .un, .un, .un, .un] with
    | .nx st => _
    | .rt d st => _
    | .rf d st => _
    | .exc x _ => _
    | _ => _) = _
  rw [hb]
  rfl
end
end Q
set_option maxRecDepth 100000
set_option maxHeartbeats 4000000
/-! M93j: the pool made; drawn exponents. -/
namespace Q
open PySem PySem.Spec PyProof.Rows L2 U M93
theorem cut63 (ns : List Int) : ∃ l : List Int, U.cutD (ns.map iD) none (some 63) = l.map iD ∧ l.length ≤ 63 := by
  refine ⟨(ns.drop 0).take (min 63 ns.length - 0), ?_, by rw [List.length_take]; omega⟩
  unfold U.cutD
  rw [HT.sIx_none, show (63 : Int) = ((63 : Nat) : Int) from rfl, HT.sIx_nat, List.length_map, List.drop_zero, List.drop_zero, List.map_take]
theorem sum_bound (B : Int) : ∀ l : List Int, (∀ v ∈ l, 0 ≤ v ∧ v ≤ B) → 0 ≤ l.sum ∧ l.sum ≤ l.length * B
  | [], _ => by simp
  | v :: l, h => by
    obtain ⟨h1, h2⟩ := h v List.mem_cons_self
    obtain ⟨h3, h4⟩ := sum_bound B l fun w hw => h w (List.mem_cons_of_mem _ hw)
    rw [List.sum_cons, List.length_cons]
    refine ⟨by omega, ?_⟩
    have : ((l.length + 1 : Nat) : Int) * B = l.length * B + B := by
      rw [Int.natCast_add, Int.add_mul]
      simp
    omega
theorem pool_ok (ns : List Int) : ∃ pd, f__law_pool [.p (.scr (ns.map iD))] = .okf pd [] ∧ PoolOk 1000 pd := by
  obtain ⟨l, hl, hn⟩ := cut63 ns
  obtain ⟨B, hB⟩ : ∃ B : Int, B = 10 ^ 60 := ⟨_, rfl⟩
  have hB0 : 0 < B := by rw [hB]; decide
  have p2 : powD (.int 10) (.int 60) = some (.int B) := by rw [hB]; rfl
  have e1 := lc_map (vs := [3]) (t := gN 3) (ft := bdYes) (fe := dOp modD (dCall1 intD (dSee 3)) (dOp powD (dC (.int 10)) (dC (.int 60)))) (st0 := [.pure (.scr (ns.map iD)), .un, .un, .un, .un]) iD (fun v => D.int (v % B)) l [] (fun v hv => ?_) (by show 0 + _ ≤ 16777216; omega)
  · obtain ⟨cs, hcs⟩ : ∃ cs, cs = l.map (· % B) := ⟨_, rfl⟩
    have hcl : cs.length = l.length := by rw [hcs, List.length_map]
    have e1' : (l.map fun v => D.int (v % B)) = cs.map iD := by rw [hcs, List.map_map]; rfl
    rw [e1'] at e1
    have e2 := lc_map (vs := [4]) (t := gN 4) (ft := bdYes) (fe := dOp mulD (dOp modD (dCall1 intD (dIxv 1 (dVar 4))) (dC (.int 1000003))) (dOp addD (dVar 4) (dC (.int 1)))) (st0 := [.pure (.scr (ns.map iD)), .cell (.lst (cs.map iD)), .un, .un, .un]) (fun k : Nat => D.int (k : Int)) (fun k => D.int (cs.getD k 0 % 1000003 * ((k : Int) + 1))) (List.range cs.length) [] (fun k hk => ?_) (by rw [List.length_range]; show 0 + _ ≤ 16777216; omega)
    · obtain ⟨ps, hps⟩ : ∃ ps, ps = (List.range cs.length).map fun k => cs.getD k 0 % 1000003 * ((k : Int) + 1) := ⟨_, rfl⟩
      have e2' : ((List.range cs.length).map fun k => D.int (cs.getD k 0 % 1000003 * ((k : Int) + 1))) = ps.map iD := by rw [hps, List.map_map]; rfl
      rw [e2'] at e2
      have hsum : sumD (.lst (ps.map iD)) = some (.int ps.sum) := v_sum1 ps
      have hpl : ps.length = cs.length := by rw [hps, List.length_map, List.length_range]
      obtain ⟨b1, b2⟩ := sum_bound 100000000 ps fun v hv => by
        rw [hps] at hv
        obtain ⟨k, hk, rfl⟩ := List.mem_map.mp hv
        rw [List.mem_range] at hk
        have k1 := Int.emod_nonneg (cs.getD k 0) (show (1000003 : Int) ≠ 0 by decide)
        have k2 := Int.emod_lt_of_pos (cs.getD k 0) (show (0 : Int) < 1000003 by decide)
        generalize cs.getD k 0 % 1000003 = z at k1 k2
        have h0 : 0 ≤ z * ((k : Int) + 1) := Int.mul_nonneg k1 (by omega)
        have h1 : z * ((k : Int) + 1) ≤ z * 63 := Int.mul_le_mul_of_nonneg_left (by omega) k1
        exact ⟨h0, by omega⟩
      have ok : okR (cs.length : Int) = true := okR_nat (by omega)
      refine ⟨poolD 0 0 cs 0 ((cs.length : Int) + ps.sum), ?_, 0, 0, cs, 0, _, rfl, by omega, by omega, by omega⟩
      simp only [f__law_pool, v_runF, b__law_pool]
      rw [← range0] at e2
      simp [-U.v_mod, -U.v_pow, hl, e1, ok, e2, hsum, poolD]
    · rw [List.mem_range] at hk
      have hat : ixD (.lst (cs.map iD)) (.int (k : Int)) = some (.int (cs.getD k 0)) := by
        rw [v_ix2]
        refine U.atI_nat ?_
        rw [List.getElem?_map, List.getElem?_eq_getElem hk, List.getD_eq_getElem?_getD, List.getElem?_eq_getElem hk]
        rfl
      have k1 := Int.emod_nonneg (cs.getD k 0) (show (1000003 : Int) ≠ 0 by decide)
      have k2 := Int.emod_lt_of_pos (cs.getD k 0) (show (0 : Int) < 1000003 by decide)
      have m1 := mod_ok (a := cs.getD k 0) (b := 1000003) (by decide)
      have m2 := mul_ok (a := cs.getD k 0 % 1000003) (b := (k : Int) + 1) (by omega) (by omega)
      generalize cs.getD k 0 = y at *
      refine ⟨[.pure (.scr (ns.map iD)), .cell (.lst (cs.map iD)), .un, .un, .pure (.int (k : Int))], [.pure (.scr (ns.map iD)), .cell (.lst (cs.map iD)), .un, .un, .pure (.int (k : Int))], by simp, rfl, ?_, by simp⟩
      simp [-v_ix1, -v_ix2, -U.v_mod, -U.v_mul, hat, m1, m2]
  · have m1 := mod_ok (a := v) (b := B) hB0
    refine ⟨[.pure (.scr (ns.map iD)), .un, .un, .pure (.int v), .un], [.pure (.scr (ns.map iD)), .un, .un, .pure (.int v), .un], by simp, rfl, ?_, by simp⟩
    simp [-U.v_mod, -U.v_pow, p2, m1]
end Q
set_option maxRecDepth 100000
set_option maxHeartbeats 4000000
/-! M93k: _law_exps. -/
namespace Q
open PySem PySem.Spec PyProof.Rows L2 U M93
theorem sum_set : ∀ (x : List Nat) (j m a : Nat), x[j]? = some a → (x.set j (a + m)).sum = x.sum + m
  | [], _, _, _, h => by simp at h
  | b :: x, 0, m, a, h => by
    simp at h
    subst h
    rw [List.set_cons_zero, List.sum_cons, List.sum_cons]
    omega
  | b :: x, j + 1, m, a, h => by
    rw [List.set_cons_succ, List.sum_cons, List.sum_cons, sum_set x j m a (by simpa using h)]
    omega
abbrev expF : DS := sSeq (sSet 6 (dCallU f__law_draw (lenIs 2 (aS 0 (aV (dVar 1) aNil))))) (sSeq (sPut 3 (dOp addD (dIxv 3 (dVar 6)) (dCall minD (lCons (dVar 5) (lCons (dVar 4) lNil)))) (dVar 6)) (sSet 4 (dOp subD (dVar 4) (dCall minD (lCons (dVar 5) (lCons (dVar 4) lNil))))))
theorem exps_turn {k : Nat} {pd : D} {N d0 L q : Int} {x : List Nat} {s6 s7 : Slot} (h : PoolOk (k + 1) pd) (h1 : 1 ≤ N) (h2 : N ≤ 12) (hx : (x.length : Int) = N) (hL : 0 ≤ L) (hq : 0 ≤ q) :
    ∃ (pd' : D) (x' : List Nat) (y6 : Slot), expF [.io 0 pd, .pure (.int N), .pure (.int d0), .cell (.lst (x.map nI)), .pure (.int L), .pure (.int q), s6, s7] = .nx [.io 0 pd', .pure (.int N), .pure (.int d0), .cell (.lst (x'.map nI)), .pure (.int (L - (if L < q then L else q))), .pure (.int q), y6, s7] ∧ PoolOk k pd' ∧ (x'.length : Int) = N ∧ (x'.sum : Int) = x.sum + (if L < q then L else q) := by
  obtain ⟨j0, pd', hd, j1, j2, hp⟩ := draw_ok (m := N) h h1 (by omega)
  obtain ⟨j, hj⟩ : ∃ j : Nat, j0 = j := ⟨j0.toNat, by omega⟩
  have hjl : j < x.length := by omega
  obtain ⟨a, ha⟩ : ∃ a, x[j]? = some a := ⟨x[j], List.getElem?_eq_getElem hjl⟩
  obtain ⟨M, hM⟩ : ∃ M : Int, M = if L < q then L else q := ⟨_, rfl⟩
  have hM0 : 0 ≤ M := by rw [hM]; split <;> omega
  obtain ⟨m, hm⟩ : ∃ m : Nat, M = m := ⟨M.toNat, by omega⟩
  have hmin : minD [.int q, .int L] = some (.int M) := by rw [hM]; rfl
  have hat : ixD (.lst (x.map nI)) (.int j0) = some (.int (a : Int)) := by
    rw [v_ix2, hj]
    exact U.atI_nat (by rw [List.getElem?_map, ha]; rfl)
  have hput : putD (.lst (x.map nI)) (.int j0) (.int ((a : Int) + M)) = some (.lst ((x.set j (a + m)).map nI)) := by
    rw [v_put, List.length_map, hj]
    have : ixN x.length (j : Int) = some j := by
      unfold ixN
      rw [if_pos (by omega), if_pos (by omega), Int.toNat_natCast]
    rw [this, Option.map_some, List.map_set]
    unfold nI
    rw [hm]
    simp
  rw [← hM]
  refine ⟨pd', x.set j (a + m), .pure (.int j0), ?_, hp, by rw [List.length_set]; exact hx, by rw [sum_set x j m a ha]; omega⟩
  simp [-v_ix1, -v_ix2, -v_put, -v_min, hd, hmin, hat, hput]
theorem exps_ok {k n d : Nat} {pd : D} {N d0 : Int} (h : PoolOk (k + 7) pd) (hN : N = n) (hd : d0 = d) (h1 : 1 ≤ n) (h2 : n ≤ 12) (h4 : d ≤ 32) : ∃ x pd', f__law_exps [.c pd, .p (.int N), .p (.int d0)] = .ok (tI x) [pd'] ∧ x.length = n ∧ x.sum = d ∧ PoolOk k pd' := by
  have ok : okR N = true := okR_int (by omega) (by omega)
  have e1 := lc_map (vs := [7]) (t := gN 7) (ft := bdYes) (fe := dC (.int 0)) (st0 := [.io 0 pd, .pure (.int N), .pure (.int d0), .un, .un, .un, .un, .un]) (fun k : Nat => D.int (k : Int)) (fun _ => D.int 0) (List.range n) [] (fun k hk => ⟨[.io 0 pd, .pure (.int N), .pure (.int d0), .un, .un, .un, .un, .pure (.int (k : Int))], [.io 0 pd, .pure (.int N), .pure (.int d0), .un, .un, .un, .un, .pure (.int (k : Int))], by simp, rfl, by simp, by simp⟩) (by rw [List.length_range]; show 0 + _ ≤ 16777216; omega)
  rw [← range0, ← hN] at e1
  have ez : ((List.range n).map fun _ => D.int 0) = (List.replicate n 0).map nI := by
    rw [List.map_replicate]
    exact List.map_const' ..|>.trans (by rw [List.length_range]; rfl)
  rw [ez] at e1
  obtain ⟨q1, pd1, r1, r2, r3, r4⟩ := draw_ok (m := d0 + 1) (k := k + 6) h (by omega) (by omega)
  obtain ⟨q2, pd2, r5, r6, r7, r8⟩ := draw_ok (m := d0 + 1) (k := k + 5) r4 (by omega) (by omega)
  obtain ⟨q3, pd3, r9, r10, r11, r12⟩ := draw_ok (m := d0 + 1) (k := k + 4) r8 (by omega) (by omega)
  have z0 : ((List.replicate n 0 : List Nat).sum : Int) = 0 := by simp
  obtain ⟨pd4, x1, y1, t1, t2, t3, t4⟩ := exps_turn (k := k + 3) (pd := pd3) (N := N) (d0 := d0) (L := d0) (q := q1) (x := List.replicate n 0) (s6 := .un) (s7 := .un) r12 (by omega) (by omega) (by rw [List.length_replicate]; omega) (by omega) r2
  obtain ⟨L1, hL1⟩ : ∃ L1 : Int, L1 = d0 - (if d0 < q1 then d0 else q1) := ⟨_, rfl⟩
  rw [← hL1] at t1
  have b1 : 0 ≤ L1 ∧ (x1.sum : Int) + L1 = d0 := by rw [hL1]; rw [t4, z0]; split <;> omega
  obtain ⟨pd5, x2, y2, u1, u2, u3, u4⟩ := exps_turn (k := k + 2) (pd := pd4) (N := N) (d0 := d0) (L := L1) (q := q2) (x := x1) (s6 := y1) (s7 := .un) t2 (by omega) (by omega) t3 b1.1 r6
  obtain ⟨L2, hL2⟩ : ∃ L2 : Int, L2 = L1 - (if L1 < q2 then L1 else q2) := ⟨_, rfl⟩
  rw [← hL2] at u1
  have b2 : 0 ≤ L2 ∧ (x2.sum : Int) + L2 = d0 := by rw [hL2]; rw [u4]; split <;> omega
  obtain ⟨pd6, x3, y3, v1, v2, v3, v4⟩ := exps_turn (k := k + 1) (pd := pd5) (N := N) (d0 := d0) (L := L2) (q := q3) (x := x2) (s6 := y2) (s7 := .un) u2 (by omega) (by omega) u3 b2.1 r10
  obtain ⟨L3, hL3⟩ : ∃ L3 : Int, L3 = L2 - (if L2 < q3 then L2 else q3) := ⟨_, rfl⟩
  rw [← hL3] at v1
  have b3 : 0 ≤ L3 ∧ (x3.sum : Int) + L3 = d0 := by rw [hL3]; rw [v4]; split <;> omega
  obtain ⟨pd7, x4, y4, w1, w2, w3, w4⟩ := exps_turn (k := k) (pd := pd6) (N := N) (d0 := d0) (L := L3) (q := d0) (x := x3) (s6 := y3) (s7 := .un) v2 (by omega) (by omega) v3 b3.1 (by omega)
  have b4 : (x4.sum : Int) = d0 := by rw [w4]; split <;> omega
  obtain ⟨L4, hL4⟩ : ∃ L4 : Int, L4 = L3 - (if L3 < d0 then L3 else d0) := ⟨_, rfl⟩
  rw [← hL4] at w1
  have loop : sFor' (gN 5) expF [.int q1, .int q2, .int q3, .int d0] [.io 0 pd3, .pure (.int N), .pure (.int d0), .cell (.lst ((List.replicate n 0).map nI)), .pure (.int d0), .un, .un, .un] = .nx [.io 0 pd7, .pure (.int N), .pure (.int d0), .cell (.lst (x4.map nI)), .pure (.int L4), .pure (.int d0), y4, .un] := by
    rw [v_for_cons]
    simp only [v_gN, List.set_cons_succ, List.set_cons_zero]
    rw [t1]
    dsimp only
    rw [v_for_cons]
    simp only [v_gN, List.set_cons_succ, List.set_cons_zero]
    rw [u1]
    dsimp only
    rw [v_for_cons]
    simp only [v_gN, List.set_cons_succ, List.set_cons_zero]
    rw [v1]
    dsimp only
    rw [v_for_cons]
    simp only [v_gN, List.set_cons_succ, List.set_cons_zero]
    rw [w1]
    rfl
  refine ⟨x4, pd7, ?_, by omega, by omega, w2⟩
  have hb : b__law_exps [.io 0 pd, .pure (.int N), .pure (.int d0), .un, .un, .un, .un, .un] = .rt (tI x4) [.io 0 pd7, .pure (.int N), .pure (.int d0), .cell (.lst (x4.map nI)), .pure (.int L4), .pure (.int d0), y4, .un] := by
    unfold b__law_exps
    have A : sSetF 3 (dLc (iR1 (lCons (dVar 1) lNil)) [7] (gN 7) bdYes (dC (.int 0))) [.io 0 pd, .pure (.int N), .pure (.int d0), .un, .un, .un, .un, .un] = .nx [.io 0 pd, .pure (.int N), .pure (.int d0), .cell (.lst ((List.replicate n 0).map nI)), .un, .un, .un, .un] := by
      simp only [v_sSetF, v_dLc, v_iR1, v_lCons, v_lNil, v_dVar, List.getElem?_cons_succ, List.getElem?_cons_zero, v_bind_ok, ok, if_true, v_un1, v_un0, List.set_cons_succ, List.set_cons_zero]
      rw [e1]
      simp
    have B : sSet 4 (dVar 2) [.io 0 pd, .pure (.int N), .pure (.int d0), .cell (.lst ((List.replicate n 0).map nI)), .un, .un, .un, .un] = .nx [.io 0 pd, .pure (.int N), .pure (.int d0), .cell (.lst ((List.replicate n 0).map nI)), .pure (.int d0), .un, .un, .un] := by simp
    have C : sFor (iSq (dLst (lCons (dCallU f__law_draw (lenIs 2 (aS 0 (aV (dOp addD (dVar 2) (dC (.int 1))) aNil)))) (lCons (dCallU f__law_draw (lenIs 2 (aS 0 (aV (dOp addD (dVar 2) (dC (.int 1))) aNil)))) (lCons (dCallU f__law_draw (lenIs 2 (aS 0 (aV (dOp addD (dVar 2) (dC (.int 1))) aNil)))) (lCons (dVar 2) lNil)))))) (gN 5) expF [.io 0 pd, .pure (.int N), .pure (.int d0), .cell (.lst ((List.replicate n 0).map nI)), .pure (.int d0), .un, .un, .un] = .nx [.io 0 pd7, .pure (.int N), .pure (.int d0), .cell (.lst (x4.map nI)), .pure (.int L4), .pure (.int d0), y4, .un] := by
      rw [← loop]
      generalize (List.replicate n 0).map nI = Z
      simp [r1, r5, r9]
    rw [seq_nx A, seq_nx B, seq_nx C]
    simp [tI]
  simp only [f__law_exps, v_runF]
  show (match b__law_exps [.io 0 pd, .pure (.int N), .pure (.int d0), .un, .un, .un, .un, .un] with
    | .nx st => _
    | .rt d st => _
    | .rf d st => _
    | .exc x _ => _
    | _ => _) = _
  rw [hb]
  rfl
end Q
set_option maxRecDepth 100000
set_option maxHeartbeats 4000000
/-! M93l: _law_bent. -/
namespace Q
open PySem PySem.Spec PyProof.Rows L2 U M93
theorem range0i (N : Int) : rangeD 0 N = (List.range N.toNat).map fun i => D.int (i : Nat) := by
  unfold rangeD
  simp
theorem fill_ok {fe : DE} {c N : Int} {a b e g h : Slot} (hN : N ≤ 1000) (hf : ∀ st, fe st = .ok (.int c) st) : lcGo [5] (gN 5) bdYes fe (rangeD 0 N) [] [a, b, e, g, h, .un] = .ok ((List.replicate N.toNat c).map iD) [a, b, e, g, h, .un] := by
  rw [range0i]
  have e1 := lc_map (vs := [5]) (t := gN 5) (ft := bdYes) (fe := fe) (st0 := [a, b, e, g, h, .un]) (fun k : Nat => D.int (k : Int)) (fun _ => D.int c) (List.range N.toNat) [] (fun k hk => ⟨[a, b, e, g, h, .pure (.int (k : Int))], [a, b, e, g, h, .pure (.int (k : Int))], by simp, rfl, by rw [hf], by simp⟩) (by rw [List.length_range]; show 0 + _ ≤ 16777216; omega)
  rw [e1, List.nil_append, List.map_replicate, List.map_const', List.length_range]
theorem mem_set {α : Type} : ∀ {xs : List α} {j : Nat}, j < xs.length → ∃ a, xs[j]? = some a := fun {xs j} h => ⟨xs[j], List.getElem?_eq_getElem h⟩
abbrev bentI : DS := sIf (bdVal (dOp eqD (dVar 4) (dC (.int 0)))) (sPut 2 (dOp subD (dNeg (dC (.int 1))) (dCallU f__law_draw (lenIs 2 (aS 0 (aV (dC (.int 3)) aNil))))) (dVar 3)) (sIf (bdVal (dOp eqD (dVar 4) (dC (.int 1)))) (sPut 2 (dOp addD (dOp subD (dOp addD (dIxv 2 (dVar 3)) (dC (.int 33))) (dCall1 sumD (dSee 2))) (dCallU f__law_draw (lenIs 2 (aS 0 (aV (dC (.int 3)) aNil))))) (dVar 3)) (sIf (bdVal (dOp eqD (dVar 4) (dC (.int 2)))) (sPut 2 (dOp subD (dOp addD (dIxv 2 (dVar 3)) (dC (.int 32))) (dCall1 sumD (dSee 2))) (dVar 3)) (sIf (bdVal (dOp eqD (dVar 4) (dC (.int 3)))) (sSet 2 (dOp addD (dVar 2) (dLc (iR1 (lCons (dOp subD (dC (.int 13)) (dCall1 lenD (dSee 2))) lNil)) [5] (gN 5) bdYes (dC (.int 0))))) (sIf (bdVal (dOp eqD (dVar 4) (dC (.int 4)))) (sPut 2 (dOp ixD (dTup (lCons (dOp powD (dC (.int 10)) (dC (.int 30))) (lCons (dNeg (dOp powD (dC (.int 10)) (dC (.int 30)))) lNil))) (dCallU f__law_draw (lenIs 2 (aS 0 (aV (dC (.int 2)) aNil))))) (dVar 3)) (sSet 2 (dOp addD (dSl (dVar 2) oNone (oSome (dVar 3)) slLD) (dLc (iR1 (lCons (dCallU f__law_draw (lenIs 2 (aS 0 (aV (dC (.int 14)) aNil)))) lNil)) [5] (gN 5) bdYes (dNeg (dC (.int 2))))))))))
/-- what the row's slot holds after the turn -/
def Row (s : Slot) (ys : List Int) : Prop := s = .cell (.lst (ys.map iD)) ∨ s = .pure (.lst (ys.map iD))
theorem bent_turn {k : Nat} {pd s1 : D} {xs : List Int} {j : Nat} {kind : Int} (h : PoolOk (k + 1) pd) (hl : xs.length ≤ 500) (hj : j < xs.length) :
    ∃ (pd' : D) (ys : List Int) (y2 : Slot), bentI [.io 0 pd, .pure s1, .cell (.lst (xs.map iD)), .pure (.int j), .pure (.int kind), .un] = .nx [.io 0 pd', .pure s1, y2, .pure (.int j), .pure (.int kind), .un] ∧ Row y2 ys ∧ ys.length ≤ xs.length + 14 ∧ PoolOk k pd' := by
  obtain ⟨a, ha⟩ := mem_set hj
  have hat : ixD (.lst (xs.map iD)) (.int j) = some (.int a) := by
    rw [v_ix2]
    exact U.atI_nat (by rw [List.getElem?_map, ha]; rfl)
  have hput : ∀ v : Int, putD (.lst (xs.map iD)) (.int j) (.int v) = some (.lst ((xs.set j v).map iD)) := fun v => by
    rw [v_put, List.length_map]
    have : ixN xs.length (j : Int) = some j := by
      unfold ixN
      rw [if_pos (by omega), if_pos (by omega), Int.toNat_natCast]
    rw [this, Option.map_some, List.map_set]
  have hsum : sumD (.lst (xs.map iD)) = some (.int xs.sum) := v_sum1 xs
  have hk : PoolOk k pd := by
    obtain ⟨a, b, cells, p, t, rfl, h1, h2, h3⟩ := h
    exact ⟨a, b, cells, p, t, rfl, h1, by omega, h3⟩
  by_cases c0 : kind = 0
  · obtain ⟨q, pd1, r1, r2, r3, r4⟩ := draw_ok (m := 3) h (by omega) (by omega)
    refine ⟨pd1, xs.set j (-1 - q), _, ?_, .inl rfl, by rw [List.length_set]; omega, r4⟩
    simp [-v_ix1, -v_ix2, -v_put, c0, r1, hput]
  by_cases c1 : kind = 1
  · obtain ⟨q, pd1, r1, r2, r3, r4⟩ := draw_ok (m := 3) h (by omega) (by omega)
    refine ⟨pd1, xs.set j (a + 33 - xs.sum + q), _, ?_, .inl rfl, by rw [List.length_set]; omega, r4⟩
    simp [-v_ix1, -v_ix2, -v_put, c1, r1, hput, hat, hsum]
  by_cases c2 : kind = 2
  · refine ⟨pd, xs.set j (a + 32 - xs.sum), _, ?_, .inl rfl, by rw [List.length_set]; omega, hk⟩
    simp [-v_ix1, -v_ix2, -v_put, c2, hput, hat, hsum]
  by_cases c3 : kind = 3
  · have e := fill_ok (fe := dC (.int 0)) (c := 0) (N := 13 - (xs.length : Int)) (a := .io 0 pd) (b := .pure s1) (e := .pure (.lst (xs.map iD))) (g := .pure (.int j)) (h := .pure (.int kind)) (by omega) (fun st => rfl)
    have ok : okR (13 - (xs.length : Int)) = true := okR_int (by omega) (by omega)
    refine ⟨pd, xs ++ List.replicate (13 - (xs.length : Int)).toNat 0, _, ?_, .inr rfl, by rw [List.length_append, List.length_replicate]; omega, hk⟩
    have hle : xs.length + (13 - xs.length) ≤ 16777216 := by omega
    rw [c3] at e
    simp only [List.map_replicate] at e
    simp [-v_ix1, -v_ix2, -v_put, c3, e, ok, hle]
  by_cases c4 : kind = 4
  · obtain ⟨q, pd1, r1, r2, r3, r4⟩ := draw_ok (m := 2) h (by omega) (by omega)
    have hq : q = 0 ∨ q = 1 := by omega
    have g0 : ixD (.tup [.int (10 ^ 30), .int (-(10 ^ 30))]) (.int 0) = some (.int (10 ^ 30)) := by rw [v_ix1]; exact U.atI_nat (i := 0) rfl
    have g1 : ixD (.tup [.int (10 ^ 30), .int (-(10 ^ 30))]) (.int 1) = some (.int (-(10 ^ 30))) := by rw [v_ix1]; exact U.atI_nat (i := 1) rfl
    have pw : powD (.int 10) (.int 30) = some (.int (10 ^ 30)) := rfl
    rcases hq with hq | hq
    · refine ⟨pd1, xs.set j (10 ^ 30), _, ?_, .inl rfl, by rw [List.length_set]; omega, r4⟩
      rw [hq] at r1
      simp [-v_ix1, -v_ix2, -v_put, -U.v_pow, -Int.reducePow, c4, r1, hput, g0, pw]
    · refine ⟨pd1, xs.set j (-(10 ^ 30)), _, ?_, .inl rfl, by rw [List.length_set]; omega, r4⟩
      rw [hq] at r1
      simp [-v_ix1, -v_ix2, -v_put, -U.v_pow, -Int.reducePow, c4, r1, hput, g1, pw]
  · obtain ⟨q, pd1, r1, r2, r3, r4⟩ := draw_ok (m := 14) h (by omega) (by omega)
    have e := fill_ok (fe := dNeg (dC (.int 2))) (c := -2) (N := q) (a := .io 0 pd1) (b := .pure s1) (e := .pure (.lst (xs.map iD))) (g := .pure (.int j)) (h := .pure (.int kind)) (by omega) (fun st => rfl)
    have ok : okR q = true := okR_int (by omega) (by omega)
    have hc : cutD (xs.map iD) none (some (j : Int)) = (xs.take j).map iD := by
      have h1 : HT.sIx (xs.map iD).length 0 none = 0 := rfl
      have h2 : HT.sIx (xs.map iD).length (xs.map iD).length (some (j : Int)) = j := by
        rw [List.length_map]
        unfold HT.sIx
        have : ¬ ((j : Int) < 0) := by omega
        simp [this]
        omega
      unfold U.cutD
      rw [h1, h2, List.drop_zero, Nat.sub_zero, List.map_take]
    refine ⟨pd1, xs.take j ++ List.replicate q.toNat (-2), _, ?_, .inr rfl, by rw [List.length_append, List.length_replicate, List.length_take]; omega, r4⟩
    have hle : min j xs.length + q.toNat ≤ 16777216 := by omega
    simp only [List.map_replicate] at e
    simp [-v_ix1, -v_ix2, -v_put, c0, c1, c2, c3, c4, e, ok, hle, hc, r1]
theorem bent_ok {k : Nat} {pd : D} {xs : List Int} (h : PoolOk (k + 3) pd) (hl : xs.length ≤ 500) (hp : 0 < xs.length) : ∃ (ys : List Int) (pd' : D), f__law_bent [.c pd, .p (.tup (xs.map iD))] = .ok (.tup (ys.map iD)) [pd'] ∧ ys.length ≤ xs.length + 14 ∧ PoolOk k pd' := by
  obtain ⟨q1, pd1, r1, r2, r3, r4⟩ := draw_ok (m := (xs.length : Int)) (k := k + 2) h (by omega) (by omega)
  obtain ⟨q2, pd2, r5, r6, r7, r8⟩ := draw_ok (m := 6) (k := k + 1) r4 (by omega) (by omega)
  obtain ⟨j, rfl⟩ : ∃ j : Nat, q1 = j := ⟨q1.toNat, by omega⟩
  obtain ⟨pd3, ys, y2, t1, t2, t3, t4⟩ := bent_turn (s1 := .tup (xs.map iD)) (xs := xs) (j := j) (kind := q2) r8 hl (by omega)
  refine ⟨ys, pd3, ?_, t3, t4⟩
  have A : sSetF 2 (dCall1 lstD (dSee 1)) [.io 0 pd, .pure (.tup (xs.map iD)), .un, .un, .un, .un] = .nx [.io 0 pd, .pure (.tup (xs.map iD)), .cell (.lst (xs.map iD)), .un, .un, .un] := by simp
  have B : sSet 3 (dCallU f__law_draw (lenIs 2 (aS 0 (aV (dCall1 lenD (dSee 2)) aNil)))) [.io 0 pd, .pure (.tup (xs.map iD)), .cell (.lst (xs.map iD)), .un, .un, .un] = .nx [.io 0 pd1, .pure (.tup (xs.map iD)), .cell (.lst (xs.map iD)), .pure (.int j), .un, .un] := by simp [r1]
  have C : sSet 4 (dCallU f__law_draw (lenIs 2 (aS 0 (aV (dC (.int 6)) aNil)))) [.io 0 pd1, .pure (.tup (xs.map iD)), .cell (.lst (xs.map iD)), .pure (.int j), .un, .un] = .nx [.io 0 pd2, .pure (.tup (xs.map iD)), .cell (.lst (xs.map iD)), .pure (.int j), .pure (.int q2), .un] := by simp [r5]
  have hb : b__law_bent [.io 0 pd, .pure (.tup (xs.map iD)), .un, .un, .un, .un] = .rt (.tup (ys.map iD)) [.io 0 pd3, .pure (.tup (xs.map iD)), y2, .pure (.int j), .pure (.int q2), .un] := by
    unfold b__law_bent
    rw [seq_nx A, seq_nx B, seq_nx C, seq_nx t1]
    rcases t2 with rfl | rfl <;> simp
  simp only [f__law_bent, v_runF]
  show (match b__law_bent [.io 0 pd, .pure (.tup (xs.map iD)), .un, .un, .un, .un] with
    | .nx st => _
    | .rt d st => _
    | .rf d st => _
    | .exc x _ => _
    | _ => _) = _
  rw [hb]
  rfl
end Q
set_option maxRecDepth 100000
set_option maxHeartbeats 4000000
/-! M93n: law, the four turns. -/
namespace Q
open PySem PySem.Spec PyProof.Rows L2 U M93
theorem PoolOk.less {k m : Nat} {pd : D} (h : PoolOk m pd) (hk : k ≤ m) : PoolOk k pd := by
  obtain ⟨a, b, cells, p, t, rfl, h1, h2, h3⟩ := h
  exact ⟨a, b, cells, p, t, rfl, h1, by omega, h3⟩
theorem placed_tI (x : List Nat) (hl : x.length ≤ 10000) : f__law_placed [.p waysD, .p (tI x)] = .ok (.bl true) [] := by
  rw [tI_int]
  exact placed_ok (toI x) (by unfold toI; rw [List.length_map]; exact hl)
abbrev turnF : DS := sSeq (sSet 7 (dCallU f__law_exps (lenIs 3 (aS 1 (aV (dVar 3) (aV (dVar 4) aNil)))))) (sSeq (sSet 8 (dCallU f__law_bent (lenIs 2 (aS 1 (aV (dVar 7) aNil))))) (sSeq (sSet 9 (dIf (bdVal (dOp gtD (dCall1 lenD (dSee 8)) (dC (.int 0)))) (dCallU f__law_bent (lenIs 2 (aS 1 (aV (dVar 8) aNil)))) (dVar 8))) (sSeq (sIf (bdOr (bdNot (bdVal (dCallU f__law_placed (lenIs 2 (aV (dVar 2) (aV (dVar 7) aNil)))))) (bdOr (bdNot (bdVal (dCallU f__law_placed (lenIs 2 (aV (dVar 2) (aV (dVar 8) aNil)))))) (bdNot (bdVal (dCallU f__law_placed (lenIs 2 (aV (dVar 2) (aV (dVar 9) aNil)))))))) (sRet (dC (.bl false))) sNil) (sIf (bdNot (bdVal (dCallU f__law_placed (lenIs 2 (aV (dVar 2) (aV (dCallU f__law_exps (lenIs 3 (aS 1 (aV (dOp addD (dC (.int 1)) (dCallU f__law_draw (lenIs 2 (aS 1 (aV (dC (.int 12)) aNil))))) (aV (dCallU f__law_draw (lenIs 2 (aS 1 (aV (dC (.int 33)) aNil)))) aNil))))) aNil)))))) (sRet (dC (.bl false))) sNil))))
theorem law_turn {k : Nat} {scr pd : D} {n d : Nat} {N d0 : Int} {s5 s6 s7 s8 s9 s10 s11 s12 s13 s14 : Slot} (h : PoolOk (k + 22) pd) (hN : N = n) (hd : d0 = d) (h1 : 1 ≤ n) (h2 : n ≤ 12) (h4 : d ≤ 32) :
    ∃ (pd' : D) (x : List Nat) (y8 y9 : Slot), turnF [.pure scr, .cell pd, .pure waysD, .pure (.int N), .pure (.int d0), s5, s6, s7, s8, s9, s10, s11, s12, s13, s14] = .nx [.pure scr, .cell pd', .pure waysD, .pure (.int N), .pure (.int d0), s5, s6, .pure (tI x), y8, y9, s10, s11, s12, s13, s14] ∧ x.length = n ∧ x.sum = d ∧ PoolOk k pd' := by
  obtain ⟨x, pd1, r1, r2, r3, r4⟩ := exps_ok (k := k + 15) h hN hd h1 h2 h4
  have q7 : tI x = .tup ((toI x).map iD) := tI_int x
  have hx : (toI x).length = x.length := by unfold toI; rw [List.length_map]
  obtain ⟨ys, pd2, b1, b2, b3⟩ := bent_ok (k := k + 12) (xs := toI x) r4 (by omega) (by omega)
  have p7 := placed_tI x (by omega)
  have p8 := placed_ok ys (by omega)
  have c9 : ∃ (zs : List Int) (pd3 : D), (sSet 9 (dIf (bdVal (dOp gtD (dCall1 lenD (dSee 8)) (dC (.int 0)))) (dCallU f__law_bent (lenIs 2 (aS 1 (aV (dVar 8) aNil)))) (dVar 8))) [.pure scr, .cell pd2, .pure waysD, .pure (.int N), .pure (.int d0), s5, s6, .pure (tI x), .pure (.tup (ys.map iD)), s9, s10, s11, s12, s13, s14] = .nx [.pure scr, .cell pd3, .pure waysD, .pure (.int N), .pure (.int d0), s5, s6, .pure (tI x), .pure (.tup (ys.map iD)), .pure (.tup (zs.map iD)), s10, s11, s12, s13, s14] ∧ zs.length ≤ 100 ∧ PoolOk (k + 9) pd3 := by
    by_cases hy : 0 < ys.length
    · obtain ⟨zs, pd3, z1, z2, z3⟩ := bent_ok (k := k + 9) (xs := ys) b3 (by omega) hy
      refine ⟨zs, pd3, ?_, by omega, z3⟩
      simp [hy, z1]
    · refine ⟨ys, pd2, ?_, by omega, b3.less (by omega)⟩
      simp [hy]
  obtain ⟨zs, pd3, z1, z2, z3⟩ := c9
  have p9 := placed_ok zs (by omega)
  obtain ⟨q1, pd4, d1, d2, d3, d4⟩ := draw_ok (m := 12) (k := k + 8) z3 (by omega) (by omega)
  obtain ⟨q2, pd5, d5, d6, d7, d8⟩ := draw_ok (m := 33) (k := k + 7) d4 (by omega) (by omega)
  obtain ⟨x2, pd6, w1, w2, w3, w4⟩ := exps_ok (k := k) (N := 1 + q1) (d0 := q2) (n := (1 + q1).toNat) (d := q2.toNat) d8 (by omega) (by omega) (by omega) (by omega) (by omega)
  have pA := placed_tI x2 (by omega)
  refine ⟨pd6, x, .pure (.tup (ys.map iD)), .pure (.tup (zs.map iD)), ?_, r2, r3, w4⟩
  have A : sSet 7 (dCallU f__law_exps (lenIs 3 (aS 1 (aV (dVar 3) (aV (dVar 4) aNil))))) [.pure scr, .cell pd, .pure waysD, .pure (.int N), .pure (.int d0), s5, s6, s7, s8, s9, s10, s11, s12, s13, s14] = .nx [.pure scr, .cell pd1, .pure waysD, .pure (.int N), .pure (.int d0), s5, s6, .pure (tI x), s8, s9, s10, s11, s12, s13, s14] := by simp [r1]
  have B : sSet 8 (dCallU f__law_bent (lenIs 2 (aS 1 (aV (dVar 7) aNil)))) [.pure scr, .cell pd1, .pure waysD, .pure (.int N), .pure (.int d0), s5, s6, .pure (tI x), s8, s9, s10, s11, s12, s13, s14] = .nx [.pure scr, .cell pd2, .pure waysD, .pure (.int N), .pure (.int d0), s5, s6, .pure (tI x), .pure (.tup (ys.map iD)), s9, s10, s11, s12, s13, s14] := by
    rw [← q7] at b1
    simp [b1]
  show sSeq _ _ _ = _
  rw [seq_nx A, seq_nx B, seq_nx z1]
  simp [p7, p8, p9, d1, d5, w1, pA]
theorem law_loop {scr : D} {n d : Nat} {N d0 : Int} (hN : N = n) (hd : d0 = d) (h1 : 1 ≤ n) (h2 : n ≤ 12) (h4 : d ≤ 32) {s5 s10 s11 s12 s13 s14 : Slot} : ∀ (ms : List Nat) {k : Nat} {pd : D} {x : List Nat} {s6 s8 s9 : Slot}, PoolOk (k + 22 * ms.length) pd → x.length = n → x.sum = d →
    ∃ (pd' : D) (x' : List Nat) (y6 y8 y9 : Slot), sFor' (gN 6) turnF (ms.map nI) [.pure scr, .cell pd, .pure waysD, .pure (.int N), .pure (.int d0), s5, s6, .pure (tI x), s8, s9, s10, s11, s12, s13, s14] = .nx [.pure scr, .cell pd', .pure waysD, .pure (.int N), .pure (.int d0), s5, y6, .pure (tI x'), y8, y9, s10, s11, s12, s13, s14] ∧ x'.length = n ∧ x'.sum = d ∧ PoolOk k pd'
  | [], k, pd, x, s6, s8, s9, h, hx, hs => ⟨pd, x, s6, s8, s9, rfl, hx, hs, h⟩
  | m :: ms, k, pd, x, s6, s8, s9, h, hx, hs => by
    obtain ⟨pd1, x1, y8, y9, t1, t2, t3, t4⟩ := law_turn (k := k + 22 * ms.length) (scr := scr) (s5 := s5) (s6 := .pure (nI m)) (s7 := .pure (tI x)) (s8 := s8) (s9 := s9) (s10 := s10) (s11 := s11) (s12 := s12) (s13 := s13) (s14 := s14) (h.less (by rw [List.length_cons]; omega)) hN hd h1 h2 h4
    obtain ⟨pd2, x2, z6, z8, z9, u1, u2, u3, u4⟩ := law_loop hN hd h1 h2 h4 ms (k := k) (s6 := .pure (nI m)) (s8 := y8) (s9 := y9) t4 t2 t3
    refine ⟨pd2, x2, z6, z8, z9, ?_, u2, u3, u4⟩
    rw [List.map_cons, v_for_cons, v_gN]
    simp only [List.set_cons_succ, List.set_cons_zero]
    rw [t1]
    exact u1
theorem law_four {scr : D} {n d : Nat} {N d0 : Int} (hN : N = n) (hd : d0 = d) (h1 : 1 ≤ n) (h2 : n ≤ 12) (h4 : d ≤ 32) {s5 s6 s7 s8 s9 s10 s11 s12 s13 s14 : Slot} {k : Nat} {pd : D} (h : PoolOk (k + 88) pd) :
    ∃ (pd' : D) (x' : List Nat) (y6 y8 y9 : Slot), sFor (iR1 (lCons (dC (.int 4)) lNil)) (gN 6) turnF [.pure scr, .cell pd, .pure waysD, .pure (.int N), .pure (.int d0), s5, s6, s7, s8, s9, s10, s11, s12, s13, s14] = .nx [.pure scr, .cell pd', .pure waysD, .pure (.int N), .pure (.int d0), s5, y6, .pure (tI x'), y8, y9, s10, s11, s12, s13, s14] ∧ x'.length = n ∧ x'.sum = d ∧ PoolOk k pd' := by
  obtain ⟨pd1, x1, y8, y9, t1, t2, t3, t4⟩ := law_turn (k := k + 66) (scr := scr) (s5 := s5) (s6 := .pure (nI 0)) (s7 := s7) (s8 := s8) (s9 := s9) (s10 := s10) (s11 := s11) (s12 := s12) (s13 := s13) (s14 := s14) h hN hd h1 h2 h4
  obtain ⟨pd2, x2, z6, z8, z9, u1, u2, u3, u4⟩ := law_loop (scr := scr) (s5 := s5) (s10 := s10) (s11 := s11) (s12 := s12) (s13 := s13) (s14 := s14) hN hd h1 h2 h4 [1, 2, 3] (k := k) (s6 := .pure (nI 0)) (s8 := y8) (s9 := y9) t4 t2 t3
  refine ⟨pd2, x2, z6, z8, z9, ?_, u2, u3, u4⟩
  have hr : rangeD 0 4 = nI 0 :: [1, 2, 3].map nI := rfl
  have ok : okR 4 = true := by decide
  simp only [v_sFor, v_iR1, v_lCons, v_lNil, v_dC, v_bind_ok, ok, if_true, v_toS_ok]
  rw [hr, v_for_cons, v_gN]
  simp only [List.set_cons_succ, List.set_cons_zero]
  rw [t1]
  exact u1
end Q
set_option maxRecDepth 100000
set_option maxHeartbeats 4000000
/-! M93o: law, the rest. -/
namespace Q
open PySem PySem.Spec PyProof.Rows L2 U M93
abbrev lastF : DS := sRet (dOp eqD (dCallU f__law_ask (lenIs 3 (aV (dC (.int 2)) (aV (dTup lNil) (aV (dC (.int 0)) aNil))))) (dTup (lCons (dC (.str "BadCount")) (lCons (dC (.int 0)) lNil))))
theorem law_last (st : DSt) : lastF st = .rt (.bl true) st := by
  have ha := ask2_err (b := .int 0) (e_count 0) (place_len (ds := []) (by simp))
  have he := eq_pair "BadCount" 0
  simp [ha, he]
theorem bad_pick {k : Nat} {pd : D} (h : PoolOk (k + 1) pd) : ∃ (b : Int) (pd' : D) (q : Int), f__law_draw [.c pd, .p (.int 4)] = .ok (.int q) [pd'] ∧ ixD (.tup [.int 0, .int 13, .int (-1), .int (10 ^ 30)]) (.int q) = some (.int b) ∧ ¬(1 ≤ b ∧ b ≤ 12) ∧ PoolOk k pd' := by
  obtain ⟨q, pd', h1, h2, h3, h4⟩ := draw_ok (m := 4) h (by omega) (by omega)
  obtain rfl | rfl | rfl | rfl : q = 0 ∨ q = 1 ∨ q = 2 ∨ q = 3 := by omega
  · exact ⟨_, pd', _, h1, U.atI_nat (i := 0) rfl, by decide, h4⟩
  · exact ⟨_, pd', _, h1, U.atI_nat (i := 1) rfl, by decide, h4⟩
  · exact ⟨_, pd', _, h1, U.atI_nat (i := 2) rfl, by decide, h4⟩
  · exact ⟨_, pd', _, h1, U.atI_nat (i := 3) rfl, by decide, h4⟩
theorem less_pick {k : Nat} {pd : D} (h : PoolOk (k + 1) pd) : ∃ (b : Int) (pd' : D) (q : Int), f__law_draw [.c pd, .p (.int 4)] = .ok (.int q) [pd'] ∧ ixD (.tup [.int (-1), .int 33, .int (-(10 ^ 30)), .int 600]) (.int q) = some (.int b) ∧ ¬(0 ≤ b ∧ b ≤ 32) ∧ PoolOk k pd' := by
  obtain ⟨q, pd', h1, h2, h3, h4⟩ := draw_ok (m := 4) h (by omega) (by omega)
  obtain rfl | rfl | rfl | rfl : q = 0 ∨ q = 1 ∨ q = 2 ∨ q = 3 := by omega
  · exact ⟨_, pd', _, h1, U.atI_nat (i := 0) rfl, by decide, h4⟩
  · exact ⟨_, pd', _, h1, U.atI_nat (i := 1) rfl, by decide, h4⟩
  · exact ⟨_, pd', _, h1, U.atI_nat (i := 2) rfl, by decide, h4⟩
  · exact ⟨_, pd', _, h1, U.atI_nat (i := 3) rfl, by decide, h4⟩
abbrev modeF : DS := sSeq (sIf (bdOr (bdVal (dOp neD (dCallU f__law_ask (lenIs 3 (aV (dVar 13) (aV (dVar 11) (aV (dVar 4) aNil))))) (dTup (lCons (dC (.str "BadCount")) (lCons (dVar 11) lNil))))) (bdVal (dOp neD (dCallU f__law_ask (lenIs 3 (aV (dVar 13) (aV (dVar 11) (aV (dVar 12) aNil))))) (dTup (lCons (dC (.str "BadCount")) (lCons (dVar 11) lNil)))))) (sRet (dC (.bl false))) sNil) (sIf (bdVal (dOp neD (dCallU f__law_ask (lenIs 3 (aV (dVar 13) (aV (dVar 3) (aV (dVar 12) aNil))))) (dTup (lCons (dC (.str "BadCount")) (lCons (dVar 12) lNil))))) (sRet (dC (.bl false))) sNil)
theorem mode_turn {c : Int} {scr pd : D} {W' : Slot} {N d0 b l : Int} {s5 s6 s7 s8 s9 s10 s14 : Slot} (hc : c = 0 ∨ c = 1) (hb : ¬(1 ≤ b ∧ b ≤ 12)) (hl : ¬(0 ≤ l ∧ l ≤ 32)) (h1 : 1 ≤ N) (h2 : N ≤ 12) : modeF [.pure scr, .cell pd, W', .pure (.int N), .pure (.int d0), s5, s6, s7, s8, s9, s10, .pure (.int b), .pure (.int l), .pure (.int c), s14] = .nx [.pure scr, .cell pd, W', .pure (.int N), .pure (.int d0), s5, s6, s7, s8, s9, s10, .pure (.int b), .pure (.int l), .pure (.int c), s14] := by
  have e1 := eq_pair "BadCount"
  have n1 := ne_pair "BadCount"
  have k1 : ∀ d : Int, f__law_ask [.p (.int c), .p (.int b), .p (.int d)] = .ok (.tup [.str "BadCount", .int b]) [] := fun d => by
    rcases hc with rfl | rfl
    · exact ask0_err (e_count b) (monomials_bad (monomial_count_letters hb))
    · exact ask1_err (e_count b) (monomial_count_letters hb)
  have k2 : f__law_ask [.p (.int c), .p (.int N), .p (.int l)] = .ok (.tup [.str "BadCount", .int l]) [] := by
    rcases hc with rfl | rfl
    · exact ask0_err (e_count l) (monomials_bad (monomial_count_degree h1 h2 hl))
    · exact ask1_err (e_count l) (monomial_count_degree h1 h2 hl)
  simp [k1, k2, n1]
end Q
set_option maxRecDepth 100000
set_option maxHeartbeats 4000000
/-! M93p: law says True. -/
namespace Q
open PySem PySem.Spec PyProof.Rows L2 U M93
theorem at2_0 {a b : D} : atI [a, b] 0 = some a := U.atI_nat (i := 0) rfl
theorem at2_1 {a b : D} : atI [a, b] 1 = some b := U.atI_nat (i := 1) rfl
theorem eq_tooL : eqD (.str "TooLarge") (.str "told") = some (.bl false) := by kernel_rfl
abbrev askF : DS := sSet 10 (dCallU f__law_ask (lenIs 3 (aV (dC (.int 0)) (aV (dVar 3) (aV (dVar 4) aNil)))))
abbrev toldF : DS := sIf (bdAnd (bdVal (dOp eqD (dIxv 10 (dC (.int 0))) (dC (.str "told")))) (bdVal (dOp neD (dOp ixD (dIxv 10 (dC (.int 1))) (dCallU f__law_before (lenIs 2 (aV (dVar 2) (aV (dVar 7) aNil))))) (dVar 7)))) (sRet (dC (.bl false))) sNil
theorem law_told {scr pd : D} {n d : Nat} {N d0 : Int} {x : List Nat} {s5 s6 s8 s9 s10 s11 s12 s13 s14 : Slot} (hN : N = n) (hd : d0 = d) (h1 : 1 ≤ n) (h2 : n ≤ 12) (h4 : d ≤ 32) (hx : x.length = n) (hs : x.sum = d) :
    ∃ y, askF [.pure scr, .cell pd, .pure waysD, .pure (.int N), .pure (.int d0), s5, s6, .pure (tI x), s8, s9, s10, s11, s12, s13, s14] = .nx [.pure scr, .cell pd, .pure waysD, .pure (.int N), .pure (.int d0), s5, s6, .pure (tI x), s8, s9, .pure y, s11, s12, s13, s14] ∧
      toldF [.pure scr, .cell pd, .pure waysD, .pure (.int N), .pure (.int d0), s5, s6, .pure (tI x), s8, s9, .pure y, s11, s12, s13, s14] = .nx [.pure scr, .cell pd, .pure waysD, .pure (.int N), .pure (.int d0), s5, s6, .pure (tI x), s8, s9, .pure y, s11, s12, s13, s14] := by
  by_cases hw : wy n d ≤ 1000
  · have a0 := ask_list (monomials_ok hN hd h1 h2 h4 hw)
    refine ⟨.tup [.str "told", .lst ((mon n d).map tI)], by simp [a0], ?_⟩
    have hb := before_ok (x := x) (by omega) (by omega)
    have hm := mon_at x
    rw [hx, hs] at hm
    rw [hs] at hb
    have hi : ixD (.lst ((mon n d).map tI)) (.int (pl x d : Nat)) = some (tI x) := by
      rw [v_ix2]
      exact U.atI_nat (by rw [List.getElem?_map, hm]; rfl)
    have he := eq_str "told"
    have hn := ne_tI x
    simp [-v_ix2, at2_0, at2_1, he, hb, hi, hn]
  · have a0 := ask0_err (e_size _) (monomials_big hN hd h1 h2 h4 (by omega))
    refine ⟨.tup [.str "TooLarge", .int (wy n d : Nat)], by simp [a0], ?_⟩
    simp [at2_0, eq_tooL]
abbrev modesF : DS := sFor (iSq (dTup (lCons (dC (.int 0)) (lCons (dC (.int 1)) lNil)))) (gN 13) modeF
theorem law_modes {scr pd : D} {s2 : Slot} {N d0 b l : Int} {s5 s6 s7 s8 s9 s10 s13 s14 : Slot} (hb : ¬(1 ≤ b ∧ b ≤ 12)) (hl : ¬(0 ≤ l ∧ l ≤ 32)) (h1 : 1 ≤ N) (h2 : N ≤ 12) : modesF [.pure scr, .cell pd, s2, .pure (.int N), .pure (.int d0), s5, s6, s7, s8, s9, s10, .pure (.int b), .pure (.int l), s13, s14] = .nx [.pure scr, .cell pd, s2, .pure (.int N), .pure (.int d0), s5, s6, s7, s8, s9, s10, .pure (.int b), .pure (.int l), .pure (.int 1), s14] := by
  have e0 := mode_turn (c := 0) (scr := scr) (pd := pd) (W' := s2) (N := N) (d0 := d0) (s5 := s5) (s6 := s6) (s7 := s7) (s8 := s8) (s9 := s9) (s10 := s10) (s14 := s14) (.inl rfl) hb hl h1 h2
  have e1 := mode_turn (c := 1) (scr := scr) (pd := pd) (W' := s2) (N := N) (d0 := d0) (s5 := s5) (s6 := s6) (s7 := s7) (s8 := s8) (s9 := s9) (s10 := s10) (s14 := s14) (.inr rfl) hb hl h1 h2
  have hi : (iSq (dTup (lCons (dC (.int 0)) (lCons (dC (.int 1)) lNil)))) [.pure scr, .cell pd, s2, .pure (.int N), .pure (.int d0), s5, s6, s7, s8, s9, s10, .pure (.int b), .pure (.int l), s13, s14] = .ok [.int 0, .int 1] [.pure scr, .cell pd, s2, .pure (.int N), .pure (.int d0), s5, s6, s7, s8, s9, s10, .pure (.int b), .pure (.int l), s13, s14] := by simp
  unfold modesF
  rw [v_sFor, hi, v_toS_ok, v_for_cons, v_gN]
  simp only [List.set_cons_succ, List.set_cons_zero]
  rw [e0]
  simp only []
  rw [v_for_cons, v_gN]
  simp only [List.set_cons_succ, List.set_cons_zero]
  rw [e1]
  rfl
abbrev d3F : DS := sSet 3 (dOp addD (dC (.int 1)) (dCallU f__law_draw (lenIs 2 (aS 1 (aV (dC (.int 4)) aNil)))))
abbrev d4F : DS := sSet 4 (dCallU f__law_draw (lenIs 2 (aS 1 (aV (dC (.int 9)) aNil))))
abbrev d34F : DS := sIf (bdVal (dOp eqD (dCallU f__law_draw (lenIs 2 (aS 1 (aV (dC (.int 3)) aNil)))) (dC (.int 0)))) (sSeq (sSet 3 (dOp addD (dC (.int 1)) (dCallU f__law_draw (lenIs 2 (aS 1 (aV (dC (.int 12)) aNil)))))) (sSet 4 (dCallU f__law_draw (lenIs 2 (aS 1 (aV (dC (.int 33)) aNil)))))) sNil
theorem law_sizes {k : Nat} {scr pd : D} {s2 s3 s4 s5 s6 s7 s8 s9 s10 s11 s12 s13 s14 : Slot} (h : PoolOk (k + 5) pd) : ∃ (N d0 : Int) (pd' : D), (∀ rest : DS, sSeq d3F (sSeq d4F (sSeq d34F rest)) [.pure scr, .cell pd, s2, s3, s4, s5, s6, s7, s8, s9, s10, s11, s12, s13, s14] = rest [.pure scr, .cell pd', s2, .pure (.int N), .pure (.int d0), s5, s6, s7, s8, s9, s10, s11, s12, s13, s14]) ∧ 1 ≤ N ∧ N ≤ 12 ∧ 0 ≤ d0 ∧ d0 ≤ 32 ∧ PoolOk k pd' := by
  obtain ⟨q1, p1, e1, a1, b1, h1⟩ := draw_ok (m := 4) (k := k + 4) h (by omega) (by omega)
  obtain ⟨q2, p2, e2, a2, b2, h2⟩ := draw_ok (m := 9) (k := k + 3) h1 (by omega) (by omega)
  obtain ⟨q3, p3, e3, a3, b3, h3⟩ := draw_ok (m := 3) (k := k + 2) h2 (by omega) (by omega)
  by_cases hz : q3 = 0
  · obtain ⟨q4, p4, e4, a4, b4, h4⟩ := draw_ok (m := 12) (k := k + 1) h3 (by omega) (by omega)
    obtain ⟨q5, p5, e5, a5, b5, h5⟩ := draw_ok (m := 33) (k := k) h4 (by omega) (by omega)
    refine ⟨1 + q4, q5, p5, fun rest => ?_, by omega, by omega, by omega, by omega, h5⟩
    simp [e1, e2, e3, hz, e4, e5]
  · refine ⟨1 + q1, q2, p3, fun rest => ?_, by omega, by omega, by omega, by omega, h3.less (by omega)⟩
    simp [e1, e2, e3, hz]
abbrev p5F : DS := sSetF 5 (dLst (lCons (dTup (lCons (dVar 3) (lCons (dVar 4) lNil))) (lCons (dTup (lCons (dOp addD (dC (.int 1)) (dCallU f__law_draw (lenIs 2 (aS 1 (aV (dC (.int 12)) aNil))))) (lCons (dCallU f__law_draw (lenIs 2 (aS 1 (aV (dC (.int 33)) aNil)))) lNil))) (lCons (dTup (lCons (dOp addD (dC (.int 1)) (dCallU f__law_draw (lenIs 2 (aS 1 (aV (dC (.int 12)) aNil))))) (lCons (dC (.int 0)) lNil))) (lCons (dTup (lCons (dC (.int 1)) (lCons (dC (.int 32)) lNil))) lNil)))))
abbrev menuE : DE := dLst (lCons (dTup (lCons (dC (.int 4)) (lCons (dC (.int 16)) lNil))) (lCons (dTup (lCons (dC (.int 4)) (lCons (dC (.int 17)) lNil))) (lCons (dTup (lCons (dC (.int 5)) (lCons (dC (.int 9)) lNil))) (lCons (dTup (lCons (dC (.int 5)) (lCons (dC (.int 10)) lNil))) (lCons (dTup (lCons (dC (.int 11)) (lCons (dC (.int 4)) lNil))) (lCons (dTup (lCons (dC (.int 12)) (lCons (dC (.int 3)) lNil))) (lCons (dTup (lCons (dC (.int 12)) (lCons (dC (.int 32)) lNil))) (lCons (dTup (lCons (dC (.int 3)) (lCons (dC (.int 32)) lNil))) lNil))))))))
abbrev a5F : DS := sDrop (dApp 5 (dOp ixD menuE (dCallU f__law_draw (lenIs 2 (aS 1 (aV (dC (.int 8)) aNil))))))
abbrev iiD (p : Int × Int) : D := .tup [.int p.1, .int p.2]
abbrev menuL : List (Int × Int) := [(4, 16), (4, 17), (5, 9), (5, 10), (11, 4), (12, 3), (12, 32), (3, 32)]
def okP (p : Int × Int) : Prop := 1 ≤ p.1 ∧ p.1 ≤ 12 ∧ 0 ≤ p.2 ∧ p.2 ≤ 32
theorem menu_pick {q : Int} (h1 : 0 ≤ q) (h2 : q < 8) : ∃ p, ixD (.lst (menuL.map iiD)) (.int q) = some (iiD p) ∧ okP p := by
  obtain ⟨n, rfl⟩ := Int.eq_ofNat_of_zero_le h1
  have hn : n < menuL.length := by show n < 8; omega
  refine ⟨menuL[n], ?_, ?_⟩
  · rw [v_ix2]
    exact U.atI_nat (by rw [List.getElem?_map, List.getElem?_eq_getElem hn]; rfl)
  · have : ∀ p ∈ menuL, okP p := by
      intro p hp
      simp only [menuL, List.mem_cons, List.not_mem_nil, or_false] at hp
      rcases hp with rfl | rfl | rfl | rfl | rfl | rfl | rfl | rfl <;> (unfold okP; decide)
    exact this _ (List.getElem_mem hn)
theorem law_pairs {k : Nat} {scr pd : D} {N d0 : Int} {s2 s5 s6 s7 s8 s9 s10 s11 s12 s13 s14 : Slot} (h : PoolOk (k + 4) pd) (hN1 : 1 ≤ N) (hN2 : N ≤ 12) (hd1 : 0 ≤ d0) (hd2 : d0 ≤ 32) : ∃ (p1 p2 p3 p4 p5 : Int × Int) (pd' : D), (∀ rest : DS, sSeq p5F (sSeq a5F rest) [.pure scr, .cell pd, s2, .pure (.int N), .pure (.int d0), s5, s6, s7, s8, s9, s10, s11, s12, s13, s14] = rest [.pure scr, .cell pd', s2, .pure (.int N), .pure (.int d0), .cell (.lst ([p1, p2, p3, p4, p5].map iiD)), s6, s7, s8, s9, s10, s11, s12, s13, s14]) ∧ okP p1 ∧ okP p2 ∧ okP p3 ∧ okP p4 ∧ okP p5 ∧ PoolOk k pd' := by
  obtain ⟨q1, pd1, e1, a1, b1, h1⟩ := draw_ok (m := 12) (k := k + 3) h (by omega) (by omega)
  obtain ⟨q2, pd2, e2, a2, b2, h2⟩ := draw_ok (m := 33) (k := k + 2) h1 (by omega) (by omega)
  obtain ⟨q3, pd3, e3, a3, b3, h3⟩ := draw_ok (m := 12) (k := k + 1) h2 (by omega) (by omega)
  obtain ⟨q4, pd4, e4, a4, b4, h4⟩ := draw_ok (m := 8) (k := k) h3 (by omega) (by omega)
  obtain ⟨p5, hp, ho⟩ := menu_pick a4 b4
  have hm : ∀ st, menuE st = .ok (.lst (menuL.map iiD)) st := fun st => by simp
  refine ⟨(N, d0), (1 + q1, q2), (1 + q3, 0), (1, 32), p5, pd4, fun rest => ?_, ⟨hN1, hN2, hd1, hd2⟩, ⟨by dsimp only; omega, by dsimp only; omega, by dsimp only; omega, by dsimp only; omega⟩, ⟨by dsimp only; omega, by dsimp only; omega, by dsimp only; omega, by dsimp only; omega⟩, by unfold okP; decide, ho, h4⟩
  have A : p5F [.pure scr, .cell pd, s2, .pure (.int N), .pure (.int d0), s5, s6, s7, s8, s9, s10, s11, s12, s13, s14] = .nx [.pure scr, .cell pd3, s2, .pure (.int N), .pure (.int d0), .cell (.lst [iiD (N, d0), iiD (1 + q1, q2), iiD (1 + q3, 0), iiD (1, 32)]), s6, s7, s8, s9, s10, s11, s12, s13, s14] := by simp [e1, e2, e3]
  rw [seq_nx A]
  have B : a5F [.pure scr, .cell pd3, s2, .pure (.int N), .pure (.int d0), .cell (.lst [iiD (N, d0), iiD (1 + q1, q2), iiD (1 + q3, 0), iiD (1, 32)]), s6, s7, s8, s9, s10, s11, s12, s13, s14] = .nx [.pure scr, .cell pd4, s2, .pure (.int N), .pure (.int d0), .cell (.lst ([(N, d0), (1 + q1, q2), (1 + q3, 0), (1, 32), p5].map iiD)), s6, s7, s8, s9, s10, s11, s12, s13, s14] := by
    unfold a5F
    generalize hME : menuE = ME at *
    generalize hML : D.lst (menuL.map iiD) = ML at *
    simp [-v_ix1, -v_ix2, hm, e4, hp]
  rw [seq_nx B]
theorem listed_int (p : Int × Int) (h : okP p) : f__law_listed [.p waysD, .p (.int p.1), .p (.int p.2)] = .ok (.bl true) [] := by
  obtain ⟨h1, h2, h3, h4⟩ := h
  exact listed_ok (n := p.1.toNat) (d := p.2.toNat) (by omega) (by omega) (by omega) (by omega) (by omega)
abbrev lsF : DS := sIf (bdNot (bdVal (dCall1 allD (dLc (iSq (dVar 5)) [14] (gN 14) bdYes (dCallU f__law_listed (lenIs 3 (aV (dVar 2) (aV (dIxv 14 (dC (.int 0))) (aV (dIxv 14 (dC (.int 1))) aNil))))))))) (sRet (dC (.bl false))) sNil
theorem law_lists {scr pd : D} {p1 p2 p3 p4 p5 : Int × Int} (o1 : okP p1) (o2 : okP p2) (o3 : okP p3) (o4 : okP p4) (o5 : okP p5) {s3 s4 s6 s7 s8 s9 s10 s11 s12 s13 s14 : Slot} : lsF [.pure scr, .cell pd, .cell waysD, s3, s4, .cell (.lst ([p1, p2, p3, p4, p5].map iiD)), s6, s7, s8, s9, s10, s11, s12, s13, s14] = .nx [.pure scr, .cell pd, .pure waysD, s3, s4, .pure (.lst ([p1, p2, p3, p4, p5].map iiD)), s6, s7, s8, s9, s10, s11, s12, s13, .un] := by
  have l1 := listed_int p1 o1
  have l2 := listed_int p2 o2
  have l3 := listed_int p3 o3
  have l4 := listed_int p4 o4
  have l5 := listed_int p5 o5
  have ha : allD (.lst [.bl true, .bl true, .bl true, .bl true, .bl true]) = some (.bl true) := rfl
  generalize waysD = W at *
  simp [v_lc1, at2_0, at2_1, l1, l2, l3, l4, l5, ha]
theorem law_ok (ns : List Int) : f_law [.p (.scr (ns.map iD))] = .ok (.bl true) [] := by
  obtain ⟨pd, e0, h0⟩ := pool_ok ns
  generalize D.scr (ns.map iD) = scr at *
  have H : ∃ (st : DSt), b_law [.pure scr, .un, .un, .un, .un, .un, .un, .un, .un, .un, .un, .un, .un, .un, .un] = .rt (.bl true) st := by
    have A : sSetF 1 (dCallF f__law_pool (lenIs 1 (aV (dVar 0) aNil))) [.pure scr, .un, .un, .un, .un, .un, .un, .un, .un, .un, .un, .un, .un, .un, .un] = .nx [.pure scr, .cell pd, .un, .un, .un, .un, .un, .un, .un, .un, .un, .un, .un, .un, .un] := by simp [e0]
    have B : sSetF 2 (dCallF f__law_ways (lenIs 0 aNil)) [.pure scr, .cell pd, .un, .un, .un, .un, .un, .un, .un, .un, .un, .un, .un, .un, .un] = .nx [.pure scr, .cell pd, .cell waysD, .un, .un, .un, .un, .un, .un, .un, .un, .un, .un, .un, .un] := by simp [ways_ok]
    obtain ⟨N, d0, pd1, eS, hN1, hN2, hd1, hd2, h1⟩ := law_sizes (k := 995) (scr := scr) (s2 := .cell waysD) (s3 := .un) (s4 := .un) (s5 := .un) (s6 := .un) (s7 := .un) (s8 := .un) (s9 := .un) (s10 := .un) (s11 := .un) (s12 := .un) (s13 := .un) (s14 := .un) h0
    obtain ⟨p1, p2, p3, p4, p5, pd2, eP, o1, o2, o3, o4, o5, h2⟩ := law_pairs (k := 991) (scr := scr) (s2 := .cell waysD) (s5 := .un) (s6 := .un) (s7 := .un) (s8 := .un) (s9 := .un) (s10 := .un) (s11 := .un) (s12 := .un) (s13 := .un) (s14 := .un) h1 hN1 hN2 hd1 hd2
    have eL := law_lists (scr := scr) (pd := pd2) o1 o2 o3 o4 o5 (s3 := .pure (.int N)) (s4 := .pure (.int d0)) (s6 := .un) (s7 := .un) (s8 := .un) (s9 := .un) (s10 := .un) (s11 := .un) (s12 := .un) (s13 := .un) (s14 := .un)
    have eN : N = (N.toNat : Nat) := by omega
    have eD : d0 = (d0.toNat : Nat) := by omega
    obtain ⟨pd3, x, y6, y8, y9, eF, hx, hs, h3⟩ := law_four (scr := scr) (k := 903) (s5 := .pure (.lst ([p1, p2, p3, p4, p5].map iiD))) (s6 := .un) (s7 := .un) (s8 := .un) (s9 := .un) (s10 := .un) (s11 := .un) (s12 := .un) (s13 := .un) (s14 := .un) eN eD (by omega) (by omega) (by omega) h2
    obtain ⟨y, eA, eT⟩ := law_told (scr := scr) (pd := pd3) (s5 := .pure (.lst ([p1, p2, p3, p4, p5].map iiD))) (s6 := y6) (s8 := y8) (s9 := y9) (s10 := .un) (s11 := .un) (s12 := .un) (s13 := .un) (s14 := .un) eN eD (by omega) (by omega) (by omega) hx hs
    obtain ⟨b, pd4, q1, c1, c2, c3, h4⟩ := bad_pick (k := 902) h3
    obtain ⟨l, pd5, q2, c4, c5, c6, h5⟩ := less_pick (k := 901) h4
    have eB : sSet 11 (dOp ixD (dTup (lCons (dC (.int 0)) (lCons (dC (.int 13)) (lCons (dNeg (dC (.int 1))) (lCons (dOp powD (dC (.int 10)) (dC (.int 30))) lNil))))) (dCallU f__law_draw (lenIs 2 (aS 1 (aV (dC (.int 4)) aNil))))) [.pure scr, .cell pd3, .pure waysD, .pure (.int N), .pure (.int d0), .pure (.lst ([p1, p2, p3, p4, p5].map iiD)), y6, .pure (tI x), y8, y9, .pure y, .un, .un, .un, .un] = .nx [.pure scr, .cell pd4, .pure waysD, .pure (.int N), .pure (.int d0), .pure (.lst ([p1, p2, p3, p4, p5].map iiD)), y6, .pure (tI x), y8, y9, .pure y, .pure (.int b), .un, .un, .un] := by
      have hm : ∀ st, dTup (lCons (dC (.int 0)) (lCons (dC (.int 13)) (lCons (dNeg (dC (.int 1))) (lCons (dOp powD (dC (.int 10)) (dC (.int 30))) lNil)))) st = .ok (.tup [.int 0, .int 13, .int (-1), .int (10 ^ 30)]) st := fun st => by kernel_rfl
      rw [v_sSet, v_dOp, hm, v_bind_ok]
      generalize D.tup [.int 0, .int 13, .int (-1), .int (10 ^ 30)] = M at *
      simp [c1, c2]
    have eC : sSet 12 (dOp ixD (dTup (lCons (dNeg (dC (.int 1))) (lCons (dC (.int 33)) (lCons (dNeg (dOp powD (dC (.int 10)) (dC (.int 30)))) (lCons (dC (.int 600)) lNil))))) (dCallU f__law_draw (lenIs 2 (aS 1 (aV (dC (.int 4)) aNil))))) [.pure scr, .cell pd4, .pure waysD, .pure (.int N), .pure (.int d0), .pure (.lst ([p1, p2, p3, p4, p5].map iiD)), y6, .pure (tI x), y8, y9, .pure y, .pure (.int b), .un, .un, .un] = .nx [.pure scr, .cell pd5, .pure waysD, .pure (.int N), .pure (.int d0), .pure (.lst ([p1, p2, p3, p4, p5].map iiD)), y6, .pure (tI x), y8, y9, .pure y, .pure (.int b), .pure (.int l), .un, .un] := by
      have hm : ∀ st, dTup (lCons (dNeg (dC (.int 1))) (lCons (dC (.int 33)) (lCons (dNeg (dOp powD (dC (.int 10)) (dC (.int 30)))) (lCons (dC (.int 600)) lNil)))) st = .ok (.tup [.int (-1), .int 33, .int (-(10 ^ 30)), .int 600]) st := fun st => by kernel_rfl
      rw [v_sSet, v_dOp, hm, v_bind_ok]
      generalize D.tup [.int (-1), .int 33, .int (-(10 ^ 30)), .int 600] = M at *
      simp [c4, c5]
    have eM := law_modes (scr := scr) (pd := pd5) (s2 := .pure waysD) (N := N) (d0 := d0) (s5 := .pure (.lst ([p1, p2, p3, p4, p5].map iiD))) (s6 := y6) (s7 := .pure (tI x)) (s8 := y8) (s9 := y9) (s10 := .pure y) (s13 := .un) (s14 := .un) c3 c6 hN1 hN2
    refine ⟨[.pure scr, .cell pd5, .pure waysD, .pure (.int N), .pure (.int d0), .pure (.lst ([p1, p2, p3, p4, p5].map iiD)), y6, .pure (tI x), y8, y9, .pure y, .pure (.int b), .pure (.int l), .pure (.int 1), .un], ?_⟩
    unfold b_law
    rw [seq_nx A, seq_nx B, eS, eP, seq_nx eL, seq_nx eF, seq_nx eA, seq_nx eT, seq_nx eB, seq_nx eC, seq_nx eM]
    exact law_last _
  obtain ⟨st, H⟩ := H
  have I : initA 0 [.p scr] ++ List.replicate (15 - [Arg.p scr].length) .un = [.pure scr, .un, .un, .un, .un, .un, .un, .un, .un, .un, .un, .un, .un, .un, .un] := rfl
  unfold f_law
  rw [v_runF, I, H]
  rfl
end Q
set_option maxRecDepth 100000
set_option maxHeartbeats 0
/-! The head and the end of the law. Printed by wip/head.py. -/
namespace Q
open PySem PySem.Spec PyProof.Rows L2 L2H U
/-- a law's end, what is raised told by the world -/
theorem end_law {l : PySem.W.OpenLaw} {n k : Nat} {q : Program} {loose : List Str} {XP : (Str → Option Value) → Heap → Prop} {YP : World → Heap → Prop} {d : DefRec} {x : Str} (hn : l.most = some n) (hn2 : n ≤ sizeLine) (hdf : d.params.defaults = []) (hr : Room k callerA)
    (F : ∀ (w : World) (mg : Str → Option Value) (fa : Addr) (h : Heap), YP w h → h.Ns mainGlobals mg → mg d.name = some (.ref fa) → ∃ (K : PySem.W.Frag) (fd : FuncData) (sp : Sp), K.In h ∧ (∀ (s : Shared) (u : Value), BindsTo s fd ⟨[u], []⟩ [(x, u)]) ∧
      (∀ (H : Hp) (a : Addr) (ns : List Int), SqL K H a (ns.map V.int) → sp [.ref a] H (fun v _ => v = .bl true) fun _ _ _ => False) ∧ ∀ base : Heap, K.In base → base.Ns mainGlobals mg → FnOk l.prog w K mg base (L2N.CX l.prog w) k fa fd [x] sp) :
    PySem.W.WalkO q loose XP YP l.row.toRowW d [] (fun f vs => PySem.call f vs) := by
  refine Att.attach_call hn hdf fun w s₀ s₁ mg mb fa o pm cd doc a vs ns G Y ho hd hcd hmg hobj hints hlen hg => ?_
  obtain ⟨K, fd, sp, KX, hb, hsp, hF⟩ := F w mg fa _ Y G.T.g hmg
  refine law_call KX G.T.g G.T.b G.T.builtins G.T.nolimit hg hobj hints (Nat.le_trans hlen hn2) hr hF hb (fun H hO hS => hsp H a ns hS) fun H e s' c => ?_
  obtain ⟨_, _, _, _, _, _, _, _, _, _, _, _, z⟩ := c
  exact z
theorem reps_ints {K : PySem.W.Frag} {rc : RC K} {G : Hp} : ∀ ns : List Int, Reps rc G (ns.map V.int) (ns.map D.int)
  | [] => .nil
  | i :: ns => .cons (.int i) (reps_ints ns)
theorem law_sp {K : PySem.W.Frag} {rc : RC K} {sem : Fn} (hs : ∀ ns : List Int, sem [.p (.scr (ns.map D.int))] = .ok (.bl true) []) (H : Hp) (a : Addr) (ns : List Int) (h : SqL K H a (ns.map V.int)) : [V.ref a].length = 1 ∧ spU rc sem [.ref a] H (fun v _ => v = .bl true) fun _ _ _ => False := by
  refine ⟨rfl, H, [.p (.scr (ns.map D.int))], [], L2.Same.refl _, .p (.scr h (reps_ints ns)) .nil, ?_⟩
  rw [hs ns]
  intro v G' H' af cr rv
  cases rv
  rfl
abbrev R : PySem.W.OpenRow := PySem.W.OpenLaw.row PySem.Challenge.rw_unmovedforms_k93_monomials_in_order
def fn : List He.DefD := [⟨("BadCount", some "__init__"), "__init__", "BadCount.__init__", defArgs s_BadCount, defBody s_BadCount, defScope s_BadCount, [], []⟩, ⟨("BadSizes", some "__init__"), "__init__", "BadSizes.__init__", defArgs s_BadSizes, defBody s_BadSizes, defScope s_BadSizes, [], []⟩, ⟨("BadExponent", some "__init__"), "__init__", "BadExponent.__init__", defArgs s_BadExponent, defBody s_BadExponent, defScope s_BadExponent, [], []⟩, ⟨("TooLarge", some "__init__"), "__init__", "TooLarge.__init__", defArgs s_TooLarge, defBody s_TooLarge, defScope s_TooLarge, [], []⟩, ⟨("check_letters", none), "check_letters", "check_letters", defArgs s_check_letters, defBody s_check_letters, defScope s_check_letters, [], []⟩, ⟨("monomial_count", none), "monomial_count", "monomial_count", defArgs s_monomial_count, defBody s_monomial_count, defScope s_monomial_count, [], []⟩, ⟨("monomials", none), "monomials", "monomials", defArgs s_monomials, defBody s_monomials, defScope s_monomials, [], []⟩, ⟨("check_exponents", none), "check_exponents", "check_exponents", defArgs s_check_exponents, defBody s_check_exponents, defScope s_check_exponents, [], []⟩, ⟨("monomial_place", none), "monomial_place", "monomial_place", defArgs s_monomial_place, defBody s_monomial_place, defScope s_monomial_place, [], []⟩, ⟨("_law_pool", none), "_law_pool", "_law_pool", defArgs s__law_pool, defBody s__law_pool, defScope s__law_pool, [], []⟩, ⟨("_law_draw", none), "_law_draw", "_law_draw", defArgs s__law_draw, defBody s__law_draw, defScope s__law_draw, [], []⟩, ⟨("_law_int", none), "_law_int", "_law_int", defArgs s__law_int, defBody s__law_int, defScope s__law_int, [], []⟩, ⟨("_law_held", none), "_law_held", "_law_held", defArgs s__law_held, defBody s__law_held, defScope s__law_held, [], []⟩, ⟨("_law_error", none), "_law_error", "_law_error", defArgs s__law_error, defBody s__law_error, defScope s__law_error, [], []⟩, ⟨("_law_ask", none), "_law_ask", "_law_ask", defArgs s__law_ask, defBody s__law_ask, defScope s__law_ask, [], []⟩, ⟨("_law_ways", none), "_law_ways", "_law_ways", defArgs s__law_ways, defBody s__law_ways, defScope s__law_ways, [], []⟩, ⟨("_law_before", none), "_law_before", "_law_before", defArgs s__law_before, defBody s__law_before, defScope s__law_before, [], []⟩, ⟨("_law_exps", none), "_law_exps", "_law_exps", defArgs s__law_exps, defBody s__law_exps, defScope s__law_exps, [], []⟩, ⟨("_law_listed", none), "_law_listed", "_law_listed", defArgs s__law_listed, defBody s__law_listed, defScope s__law_listed, [], []⟩, ⟨("_law_placed", none), "_law_placed", "_law_placed", defArgs s__law_placed, defBody s__law_placed, defScope s__law_placed, [], []⟩, ⟨("_law_bent", none), "_law_bent", "_law_bent", defArgs s__law_bent, defBody s__law_bent, defScope s__law_bent, [], []⟩, ⟨("law", none), "law", "law", defArgs s_law, defBody s_law, defScope s_law, [], []⟩]
def fa : List He.Fa := [.free "ValueError", .free "all", .free "bool", .free "enumerate", .free "int", .free "isinstance", .free "len", .free "list", .free "min", .free "range", .free "sum", .free "tuple", .int "MOST_LETTERS" 12, .int "MOST_DEGREE" 32, .int "MOST_MONOMIALS" 1000, .glo "FormsError", .glo "BadCount", .glo "BadSizes", .glo "BadExponent", .glo "TooLarge", .glo "monomials", .glo "monomial_count", .glo "monomial_place", .glo "check_letters", .glo "check_exponents", .glo "_law_pool", .glo "_law_draw", .glo "_law_int", .glo "_law_held", .glo "_law_error", .glo "_law_ask", .glo "_law_ways", .glo "_law_before", .glo "_law_exps", .glo "_law_listed", .glo "_law_placed", .glo "_law_bent", .glo "law"]
def fx : List Fx := [.exi "BadCount" ["count"], .exi "BadSizes" ["given", "wanted"], .exi "BadExponent" ["exponent"], .exi "TooLarge" ["size"], .isx "BadCount" "BadCount" true, .isx "BadCount" "BadSizes" false, .isx "BadCount" "BadExponent" false, .isx "BadCount" "TooLarge" false, .isx "BadSizes" "BadCount" false, .isx "BadSizes" "BadSizes" true, .isx "BadSizes" "BadExponent" false, .isx "BadSizes" "TooLarge" false, .isx "BadExponent" "BadCount" false, .isx "BadExponent" "BadSizes" false, .isx "BadExponent" "BadExponent" true, .isx "BadExponent" "TooLarge" false, .isx "TooLarge" "BadCount" false, .isx "TooLarge" "BadSizes" false, .isx "TooLarge" "BadExponent" false, .isx "TooLarge" "TooLarge" true, .isT "BadCount" "ValueError" true, .isT "BadSizes" "ValueError" true, .isT "BadExponent" "ValueError" true, .isT "TooLarge" "ValueError" true, .exm "BadCount" "FormsError" true, .exm "BadSizes" "FormsError" true, .exm "BadExponent" "FormsError" true, .exm "TooLarge" "FormsError" true]
def ex (K : PySem.W.Frag) : Bool := (fx.all fun f => f.ok K) && decide (PySem.W.nsIn K mainGlobals "comb" = some (some (.builtin "math.comb")))
abbrev hk : PySem.W.Hook := He.hookX 4 fa fn [] [] ex
def ob (s : PySem.W.SharedT) : He.AlX := He.obsX 4 fa fn [] [] ex (HandSHeadRun.getT s)
theorem ob_eq (s : PySem.W.SharedT) : ob s = hk.obs s.abs := He.obsX_eq (HandSHeadRun.getT_eq s)
def nm0 : List PySem.Str := ["FormsError", "BadCount", "BadSizes", "BadExponent", "TooLarge", "MOST_LETTERS", "MOST_DEGREE", "MOST_MONOMIALS", "monomials", "monomial_count", "monomial_place", "check_letters", "check_exponents", "_law_pool", "_law_draw", "_law_int", "_law_held", "_law_error", "_law_ask", "_law_ways", "_law_before", "_law_exps", "_law_listed", "_law_placed", "_law_bent"]
def names : List PySem.Str := nm0
theorem run (w : World) : HandSHeadRun.RunEqI R (PySem.W.view R.prog [0, 29]) hk ob 3000 names w := by
  unfold HandSHeadRun.RunEqI
  kernel_rfl
section
variable {P : Program} {w : World} {K : PySem.W.Frag} {mg : Str → Option Value} {base h : Heap} {fd : FuncData}
theorem glo (X : K.In h) (G : h.Ns mainGlobals mg) (c : He.SaysX fa fn [] [] ex w h K) : Glo K mg where
  n_ValueError := He.free_ok X G (c.t.d.fact 0 (f := .free "ValueError") rfl)
  n_all := He.free_ok X G (c.t.d.fact 1 (f := .free "all") rfl)
  n_bool := He.free_ok X G (c.t.d.fact 2 (f := .free "bool") rfl)
  n_enumerate := He.free_ok X G (c.t.d.fact 3 (f := .free "enumerate") rfl)
  n_int := He.free_ok X G (c.t.d.fact 4 (f := .free "int") rfl)
  n_isinstance := He.free_ok X G (c.t.d.fact 5 (f := .free "isinstance") rfl)
  n_len := He.free_ok X G (c.t.d.fact 6 (f := .free "len") rfl)
  n_list := He.free_ok X G (c.t.d.fact 7 (f := .free "list") rfl)
  n_min := He.free_ok X G (c.t.d.fact 8 (f := .free "min") rfl)
  n_range := He.free_ok X G (c.t.d.fact 9 (f := .free "range") rfl)
  n_sum := He.free_ok X G (c.t.d.fact 10 (f := .free "sum") rfl)
  n_tuple := He.free_ok X G (c.t.d.fact 11 (f := .free "tuple") rfl)
  c_MOST_LETTERS := He.int_ok X G (c.t.d.fact 12 (f := .int "MOST_LETTERS" 12) rfl)
  c_MOST_DEGREE := He.int_ok X G (c.t.d.fact 13 (f := .int "MOST_DEGREE" 32) rfl)
  c_MOST_MONOMIALS := He.int_ok X G (c.t.d.fact 14 (f := .int "MOST_MONOMIALS" 1000) rfl)
  k_FormsError := He.glo_ok X G (c.t.d.fact 15 (f := .glo "FormsError") rfl)
  k_BadCount := He.glo_ok X G (c.t.d.fact 16 (f := .glo "BadCount") rfl)
  k_BadSizes := He.glo_ok X G (c.t.d.fact 17 (f := .glo "BadSizes") rfl)
  k_BadExponent := He.glo_ok X G (c.t.d.fact 18 (f := .glo "BadExponent") rfl)
  k_TooLarge := He.glo_ok X G (c.t.d.fact 19 (f := .glo "TooLarge") rfl)
  d_monomials := He.glo_ok X G (c.t.d.fact 20 (f := .glo "monomials") rfl)
  d_monomial_count := He.glo_ok X G (c.t.d.fact 21 (f := .glo "monomial_count") rfl)
  d_monomial_place := He.glo_ok X G (c.t.d.fact 22 (f := .glo "monomial_place") rfl)
  d_check_letters := He.glo_ok X G (c.t.d.fact 23 (f := .glo "check_letters") rfl)
  d_check_exponents := He.glo_ok X G (c.t.d.fact 24 (f := .glo "check_exponents") rfl)
  d__law_pool := He.glo_ok X G (c.t.d.fact 25 (f := .glo "_law_pool") rfl)
  d__law_draw := He.glo_ok X G (c.t.d.fact 26 (f := .glo "_law_draw") rfl)
  d__law_int := He.glo_ok X G (c.t.d.fact 27 (f := .glo "_law_int") rfl)
  d__law_held := He.glo_ok X G (c.t.d.fact 28 (f := .glo "_law_held") rfl)
  d__law_error := He.glo_ok X G (c.t.d.fact 29 (f := .glo "_law_error") rfl)
  d__law_ask := He.glo_ok X G (c.t.d.fact 30 (f := .glo "_law_ask") rfl)
  d__law_ways := He.glo_ok X G (c.t.d.fact 31 (f := .glo "_law_ways") rfl)
  d__law_before := He.glo_ok X G (c.t.d.fact 32 (f := .glo "_law_before") rfl)
  d__law_exps := He.glo_ok X G (c.t.d.fact 33 (f := .glo "_law_exps") rfl)
  d__law_listed := He.glo_ok X G (c.t.d.fact 34 (f := .glo "_law_listed") rfl)
  d__law_placed := He.glo_ok X G (c.t.d.fact 35 (f := .glo "_law_placed") rfl)
  d__law_bent := He.glo_ok X G (c.t.d.fact 36 (f := .glo "_law_bent") rfl)
  d_law := He.glo_ok X G (c.t.d.fact 37 (f := .glo "law") rfl)
  m_comb := PySem.W.mg_of X G (of_decide_eq_true (Bool.and_eq_true_iff.mp c.more).2)
theorem fxs (c : He.SaysX fa fn [] [] ex w h K) (i : Nat) {f : Fx} (e : fx[i]? = some f) : f.ok K = true := List.all_eq_true.mp (show (fx.all fun f => f.ok K) = true from (Bool.and_eq_true_iff.mp c.more).1) f (List.mem_of_getElem? e)
theorem fes (c : He.SaysX fa fn [] [] ex w h K) : Fe K where
  e_BadCount := exi_ok (fxs c 0 (f := .exi "BadCount" ["count"]) rfl)
  e_BadSizes := exi_ok (fxs c 1 (f := .exi "BadSizes" ["given", "wanted"]) rfl)
  e_BadExponent := exi_ok (fxs c 2 (f := .exi "BadExponent" ["exponent"]) rfl)
  e_TooLarge := exi_ok (fxs c 3 (f := .exi "TooLarge" ["size"]) rfl)
  i_BadCount_BadCount := isx_ok (fxs c 4 (f := .isx "BadCount" "BadCount" true) rfl)
  i_BadCount_BadSizes := isx_ok (fxs c 5 (f := .isx "BadCount" "BadSizes" false) rfl)
  i_BadCount_BadExponent := isx_ok (fxs c 6 (f := .isx "BadCount" "BadExponent" false) rfl)
  i_BadCount_TooLarge := isx_ok (fxs c 7 (f := .isx "BadCount" "TooLarge" false) rfl)
  i_BadSizes_BadCount := isx_ok (fxs c 8 (f := .isx "BadSizes" "BadCount" false) rfl)
  i_BadSizes_BadSizes := isx_ok (fxs c 9 (f := .isx "BadSizes" "BadSizes" true) rfl)
  i_BadSizes_BadExponent := isx_ok (fxs c 10 (f := .isx "BadSizes" "BadExponent" false) rfl)
  i_BadSizes_TooLarge := isx_ok (fxs c 11 (f := .isx "BadSizes" "TooLarge" false) rfl)
  i_BadExponent_BadCount := isx_ok (fxs c 12 (f := .isx "BadExponent" "BadCount" false) rfl)
  i_BadExponent_BadSizes := isx_ok (fxs c 13 (f := .isx "BadExponent" "BadSizes" false) rfl)
  i_BadExponent_BadExponent := isx_ok (fxs c 14 (f := .isx "BadExponent" "BadExponent" true) rfl)
  i_BadExponent_TooLarge := isx_ok (fxs c 15 (f := .isx "BadExponent" "TooLarge" false) rfl)
  i_TooLarge_BadCount := isx_ok (fxs c 16 (f := .isx "TooLarge" "BadCount" false) rfl)
  i_TooLarge_BadSizes := isx_ok (fxs c 17 (f := .isx "TooLarge" "BadSizes" false) rfl)
  i_TooLarge_BadExponent := isx_ok (fxs c 18 (f := .isx "TooLarge" "BadExponent" false) rfl)
  i_TooLarge_TooLarge := isx_ok (fxs c 19 (f := .isx "TooLarge" "TooLarge" true) rfl)
  v_BadCount := isT_ok (fxs c 20 (f := .isT "BadCount" "ValueError" true) rfl)
  v_BadSizes := isT_ok (fxs c 21 (f := .isT "BadSizes" "ValueError" true) rfl)
  v_BadExponent := isT_ok (fxs c 22 (f := .isT "BadExponent" "ValueError" true) rfl)
  v_TooLarge := isT_ok (fxs c 23 (f := .isT "TooLarge" "ValueError" true) rfl)
  m_BadCount := exm_ok' (fxs c 24 (f := .exm "BadCount" "FormsError" true) rfl)
  m_BadSizes := exm_ok' (fxs c 25 (f := .exm "BadSizes" "FormsError" true) rfl)
  m_BadExponent := exm_ok' (fxs c 26 (f := .exm "BadExponent" "FormsError" true) rfl)
  m_TooLarge := exm_ok' (fxs c 27 (f := .exm "TooLarge" "FormsError" true) rfl)
theorem join (F : Fe K) (g : Glo K mg) (c : He.SaysD fa fn K) (FL : FunD K "law" "law" (defArgs s_law) (defBody s_law) (defScope s_law) [] [] (He.ga K "law") fd) : FnOk P w K mg base (L2N.CX P w) 9 (He.ga K "law") fd ["script"] (fun vs H Q E => vs.length = 1 ∧ spU (K := K) ⟨cm K, none⟩ f_law vs H Q E) := by
  obtain ⟨_, ze_BadCount⟩ := c.def_ 0 (d := ⟨("BadCount", some "__init__"), "__init__", "BadCount.__init__", defArgs s_BadCount, defBody s_BadCount, defScope s_BadCount, [], []⟩) rfl
  have he_BadCount := e_BadCount (P := P) (w := w) (base := base) F g  ze_BadCount
  obtain ⟨_, ze_BadSizes⟩ := c.def_ 1 (d := ⟨("BadSizes", some "__init__"), "__init__", "BadSizes.__init__", defArgs s_BadSizes, defBody s_BadSizes, defScope s_BadSizes, [], []⟩) rfl
  have he_BadSizes := e_BadSizes (P := P) (w := w) (base := base) F g  ze_BadSizes
  obtain ⟨_, ze_BadExponent⟩ := c.def_ 2 (d := ⟨("BadExponent", some "__init__"), "__init__", "BadExponent.__init__", defArgs s_BadExponent, defBody s_BadExponent, defScope s_BadExponent, [], []⟩) rfl
  have he_BadExponent := e_BadExponent (P := P) (w := w) (base := base) F g  ze_BadExponent
  obtain ⟨_, ze_TooLarge⟩ := c.def_ 3 (d := ⟨("TooLarge", some "__init__"), "__init__", "TooLarge.__init__", defArgs s_TooLarge, defBody s_TooLarge, defScope s_TooLarge, [], []⟩) rfl
  have he_TooLarge := e_TooLarge (P := P) (w := w) (base := base) F g  ze_TooLarge
  obtain ⟨_, zd_check_letters⟩ := c.def_ 4 (d := ⟨("check_letters", none), "check_letters", "check_letters", defArgs s_check_letters, defBody s_check_letters, defScope s_check_letters, [], []⟩) rfl
  have hd_check_letters := d_check_letters (P := P) (w := w) (base := base) F g he_BadCount zd_check_letters
  obtain ⟨_, zd_monomial_count⟩ := c.def_ 5 (d := ⟨("monomial_count", none), "monomial_count", "monomial_count", defArgs s_monomial_count, defBody s_monomial_count, defScope s_monomial_count, [], []⟩) rfl
  have hd_monomial_count := d_monomial_count (P := P) (w := w) (base := base) F g he_BadCount hd_check_letters zd_monomial_count
  obtain ⟨_, zd_monomials⟩ := c.def_ 6 (d := ⟨("monomials", none), "monomials", "monomials", defArgs s_monomials, defBody s_monomials, defScope s_monomials, [], []⟩) rfl
  have hd_monomials := d_monomials (P := P) (w := w) (base := base) F g he_TooLarge hd_monomial_count zd_monomials
  obtain ⟨_, zd_check_exponents⟩ := c.def_ 7 (d := ⟨("check_exponents", none), "check_exponents", "check_exponents", defArgs s_check_exponents, defBody s_check_exponents, defScope s_check_exponents, [], []⟩) rfl
  have hd_check_exponents := d_check_exponents (P := P) (w := w) (base := base) F g he_BadExponent he_BadSizes zd_check_exponents
  obtain ⟨_, zd_monomial_place⟩ := c.def_ 8 (d := ⟨("monomial_place", none), "monomial_place", "monomial_place", defArgs s_monomial_place, defBody s_monomial_place, defScope s_monomial_place, [], []⟩) rfl
  have hd_monomial_place := d_monomial_place (P := P) (w := w) (base := base) F g he_TooLarge hd_check_exponents hd_check_letters zd_monomial_place
  obtain ⟨_, zd__law_pool⟩ := c.def_ 9 (d := ⟨("_law_pool", none), "_law_pool", "_law_pool", defArgs s__law_pool, defBody s__law_pool, defScope s__law_pool, [], []⟩) rfl
  have hd__law_pool := d__law_pool (P := P) (w := w) (base := base) F g  zd__law_pool
  obtain ⟨_, zd__law_draw⟩ := c.def_ 10 (d := ⟨("_law_draw", none), "_law_draw", "_law_draw", defArgs s__law_draw, defBody s__law_draw, defScope s__law_draw, [], []⟩) rfl
  have hd__law_draw := d__law_draw (P := P) (w := w) (base := base) F g  zd__law_draw
  obtain ⟨_, zd__law_int⟩ := c.def_ 11 (d := ⟨("_law_int", none), "_law_int", "_law_int", defArgs s__law_int, defBody s__law_int, defScope s__law_int, [], []⟩) rfl
  have hd__law_int := d__law_int (P := P) (w := w) (base := base) F g  zd__law_int
  obtain ⟨_, zx__law_int⟩ := c.def_ 11 (d := ⟨("_law_int", none), "_law_int", "_law_int", defArgs s__law_int, defBody s__law_int, defScope s__law_int, [], []⟩) rfl
  have hx__law_int := x__law_int (P := P) (w := w) (base := base) F g  zx__law_int
  obtain ⟨_, zx__law_held⟩ := c.def_ 12 (d := ⟨("_law_held", none), "_law_held", "_law_held", defArgs s__law_held, defBody s__law_held, defScope s__law_held, [], []⟩) rfl
  have hx__law_held := x__law_held (P := P) (w := w) (base := base) F g hx__law_int zx__law_held
  obtain ⟨_, zx__law_error⟩ := c.def_ 13 (d := ⟨("_law_error", none), "_law_error", "_law_error", defArgs s__law_error, defBody s__law_error, defScope s__law_error, [], []⟩) rfl
  have hx__law_error := x__law_error (P := P) (w := w) (base := base) F g hx__law_held zx__law_error
  obtain ⟨_, zn__law_ask⟩ := c.def_ 14 (d := ⟨("_law_ask", none), "_law_ask", "_law_ask", defArgs s__law_ask, defBody s__law_ask, defScope s__law_ask, [], []⟩) rfl
  have hn__law_ask := n__law_ask (P := P) (w := w) (base := base) F g hx__law_error hd_monomial_count hd_monomial_place hd_monomials zn__law_ask
  obtain ⟨_, zd__law_ways⟩ := c.def_ 15 (d := ⟨("_law_ways", none), "_law_ways", "_law_ways", defArgs s__law_ways, defBody s__law_ways, defScope s__law_ways, [], []⟩) rfl
  have hd__law_ways := d__law_ways (P := P) (w := w) (base := base) F g  zd__law_ways
  obtain ⟨_, zd__law_before⟩ := c.def_ 16 (d := ⟨("_law_before", none), "_law_before", "_law_before", defArgs s__law_before, defBody s__law_before, defScope s__law_before, [], []⟩) rfl
  have hd__law_before := d__law_before (P := P) (w := w) (base := base) F g  zd__law_before
  obtain ⟨_, zd__law_exps⟩ := c.def_ 17 (d := ⟨("_law_exps", none), "_law_exps", "_law_exps", defArgs s__law_exps, defBody s__law_exps, defScope s__law_exps, [], []⟩) rfl
  have hd__law_exps := d__law_exps (P := P) (w := w) (base := base) F g hd__law_draw zd__law_exps
  have hd__law_ask := hn__law_ask.p runN_nf
  obtain ⟨_, zd__law_listed⟩ := c.def_ 18 (d := ⟨("_law_listed", none), "_law_listed", "_law_listed", defArgs s__law_listed, defBody s__law_listed, defScope s__law_listed, [], []⟩) rfl
  have hd__law_listed := d__law_listed (P := P) (w := w) (base := base) F g hn__law_ask hd__law_ask hd__law_int zd__law_listed
  obtain ⟨_, zd__law_placed⟩ := c.def_ 19 (d := ⟨("_law_placed", none), "_law_placed", "_law_placed", defArgs s__law_placed, defBody s__law_placed, defScope s__law_placed, [], []⟩) rfl
  have hd__law_placed := d__law_placed (P := P) (w := w) (base := base) F g hd__law_ask hd__law_before hd__law_int zd__law_placed
  obtain ⟨_, zd__law_bent⟩ := c.def_ 20 (d := ⟨("_law_bent", none), "_law_bent", "_law_bent", defArgs s__law_bent, defBody s__law_bent, defScope s__law_bent, [], []⟩) rfl
  have hd__law_bent := d__law_bent (P := P) (w := w) (base := base) F g hd__law_draw zd__law_bent
  exact t_law F g hd__law_ask hd__law_before hd__law_bent hd__law_draw hd__law_exps hd__law_listed hd__law_placed hd__law_pool hd__law_ways FL
end
end Q
open PySem PySem.W PySem.Calls PyProof.Rows
theorem PySem.Challenge.cw_unmovedforms_k93_monomials_in_order_holds : PySem.Challenge.rw_unmovedforms_k93_monomials_in_order.Holds := by
  w_on; o_law
  refine HandSHeadRun.head_imp (r := OpenLaw.row PySem.Challenge.rw_unmovedforms_k93_monomials_in_order) (q := view (OpenLaw.row PySem.Challenge.rw_unmovedforms_k93_monomials_in_order).prog [0, 29]) (H := Q.hk) (ob := Q.ob) (M := 3000) (loose := Q.names) (d := HandSHeadRun.topDef (OpenLaw.row PySem.Challenge.rw_unmovedforms_k93_monomials_in_order).prog 29) (kwd := []) Q.ob_eq
    Q.run (by kernel_rfl) (by kernel_rfl) (by kernel_rfl) (by rfl) (by first | assumption | decide +kernel) (by decide +kernel) ⟨rfl, rfl, rfl, rfl, rfl, by decide +kernel⟩ ?hw ?hc
  case hw => w_witness2
  case hc =>
    refine Q.end_law (l := PySem.Challenge.rw_unmovedforms_k93_monomials_in_order) (n := 63) (k := 9) (x := "script") rfl (by decide) (by kernel_rfl) ⟨rfl, by decide, by decide⟩ ?F
    intro w mg fa h Y G hmg0
    obtain ⟨K, KX, c⟩ := Y
    have hmg : mg ("law" : PySem.Str) = some (.ref fa) := by
      have e : (HandSHeadRun.topDef (OpenLaw.row PySem.Challenge.rw_unmovedforms_k93_monomials_in_order).prog 29).name = ("law" : PySem.Str) := by kernel_rfl
      rw [← e]
      exact hmg0
    have g := Q.glo KX G c
    have e := hmg.symm.trans g.d_law
    cases e
    obtain ⟨fd, FL⟩ := c.t.d.def_ 21 (d := ⟨("law", none), "law", "law", L2.defArgs Q.s_law, L2.defBody Q.s_law, L2.defScope Q.s_law, [], []⟩) rfl
    have b := L2.FunD.bindsA (ps := ["script"]) FL fun _ _ _ _ _ _ us hl => match us, hl with | [_], _ => rfl
    exact ⟨K, fd, _, KX, fun s v => b s [v] rfl, fun H a ns hS => Q.law_sp (rc := ⟨Q.cm K, none⟩) Q.law_ok H a ns hS, fun base _ _ => Q.join (Q.fes c) g c.t.d FL⟩
#print axioms PySem.Challenge.cw_unmovedforms_k93_monomials_in_order_holds
