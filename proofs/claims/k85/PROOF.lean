import PyProof.Rows.All
import Wide.All
import OpenK.AllK
import Wide.FinOn
import KE.KStateDown
import HandS.ForMost
import HandS.Exc
import HandS.WordsExc
import HandS.More
import HandS.Defaults
import HandS.Slots
import HandS.Flow
import HandS.Zip
import HandS.DictComp
import HandS.Conv
import HandS.IsInst
import HandS.Wide
import HandS.HeadHook2
import HandS.Evl
import HandS.TupAny
import HandS.Style
import KE.SortData
import HandS.SetTxt0
import HandS.SetFor
import KE.OsSortAny
import KE.KDictPairs
import HandS.Codes
import HandS.MakeKwOnly
import HandS.Small
import HandS.SlotsOwn
import PyProof.DictUpdate
import KE.GoesEnum
import KE.KOwnIter
import KE.KDictIter
import HandS.IterVal
import KE.DataCmp
import HandS.Head0
import HandS.Head1
import HandS.Head2
import HandS.HeadEnd
import HandS.HeadHook1
import PySem.Challenge.RW_belowlast_k85_whole_calls_and_tools
set_option Elab.async false
set_option linter.all false
set_option maxRecDepth 100000
set_option maxHeartbeats 8000000
namespace Bl
open PySem PySem.Spec PyProof.Rows L2 Evl

/-! ### plain data, and what stands for it in a view of the heap -/
inductive D where
  | non | bl (b : Bool) | int (i : Int) | str (x : Str)
  | lst (xs : List D) | tup (xs : List D) | dic (kvs : List (Key × D)) | obj (c : Str) (fs : List (Option D))
  | scr (ns : List Int)
  | dicF (kvs : List (Key × D))

/-- a pair; a row of pairs (such a tuple may be made a dict, so its object is told) -/
def isPr : D → Bool
  | .tup [.str _, .tup _] => true
  | _ => false
def allP (ds : List D) : Bool := !ds.isEmpty && ds.all isPr
/-- a tuple's object without a dict of its own -/
def PlT (F : Hp) (a : Addr) : Prop := ∃ o u, F a = some (.frz o u) ∧ o.dict = none
mutual
inductive Rep (K : PySem.W.Frag) (F : Hp) : V → D → Prop
  | non : Rep K F .non .non
  | bl (b : Bool) : Rep K F (.bl b) (.bl b)
  | int (i : Int) : Rep K F (.int i) (.int i)
  | str (x : Str) : Rep K F (.str x) (.str x)
  | lst {a : Addr} {xs : List V} {ds : List D} : F a = some (.lst xs) → Reps K F xs ds → Rep K F (.ref a) (.lst ds)
  | tup {a : Addr} {xs : List V} {ds : List D} : SqT K F a xs → (allP ds = true → PlT F a) → Reps K F xs ds → Rep K F (.ref a) (.tup ds)
  | dic {a : Addr} {xs : List (Key × V)} {ds : List (Key × D)} : F a = some (.dK xs) → RepKs K F xs ds → Rep K F (.ref a) (.dic ds)
  | obj {a dx : Addr} {c : Str} {vs : List (Option V)} {fs : List (Option D)} : SlX.Slt F a (He.ga K c) dx vs → RepOs K F vs fs → Rep K F (.ref a) (.obj c fs)
  | scr {a : Addr} {ns : List Int} : SqL K F a (ns.map V.int) → Rep K F (.ref a) (.scr ns)
  | dicF {a : Addr} {o : Obj} {xs : List (Key × V)} {ds : List (Key × D)} : F a = some (.frz o (.dK xs)) → RepKs K F xs ds → Rep K F (.ref a) (.dicF ds)
inductive Reps (K : PySem.W.Frag) (F : Hp) : List V → List D → Prop
  | nil : Reps K F [] []
  | cons {v : V} {d : D} {vs : List V} {ds : List D} : Rep K F v d → Reps K F vs ds → Reps K F (v :: vs) (d :: ds)
inductive RepKs (K : PySem.W.Frag) (F : Hp) : List (Key × V) → List (Key × D) → Prop
  | nil : RepKs K F [] []
  | cons {k : Key} {v : V} {d : D} {vs : List (Key × V)} {ds : List (Key × D)} : Rep K F v d → RepKs K F vs ds → RepKs K F ((k, v) :: vs) ((k, d) :: ds)
inductive RepOs (K : PySem.W.Frag) (F : Hp) : List (Option V) → List (Option D) → Prop
  | nil : RepOs K F [] []
  | some {v : V} {d : D} {vs : List (Option V)} {ds : List (Option D)} : Rep K F v d → RepOs K F vs ds → RepOs K F (some v :: vs) (some d :: ds)
  | none {o : Option V} {vs : List (Option V)} {ds : List (Option D)} : RepOs K F vs ds → RepOs K F (o :: vs) (none :: ds)
end

/-- all that is read in F is read so in F' -/
structure Le (F F' : Hp) : Prop where
  l : ∀ a xs, F a = some (.lst xs) → F' a = some (.lst xs)
  t : ∀ a xs, Rd F a (.tup xs) → Rd F' a (.tup xs)
  d : ∀ a ks, F a = some (.dK ks) → F' a = some (.dK ks)
  s : ∀ a C dx vs, SlX.Slt F a C dx vs → SlX.Slt F' a C dx vs
  p : ∀ a, PlT F a → PlT F' a
  q : ∀ a xs, Rd F a (.lst xs) → Rd F' a (.lst xs)
  f : ∀ a o ks, F a = some (.frz o (.dK ks)) → F' a = some (.frz o (.dK ks))
theorem Le.refl (F : Hp) : Le F F := ⟨fun _ _ h => h, fun _ _ h => h, fun _ _ h => h, fun _ _ _ _ h => h, fun _ h => h, fun _ _ h => h, fun _ _ _ h => h⟩
theorem Le.trans {F G H : Hp} (a : Le F G) (b : Le G H) : Le F H :=
  ⟨fun x y h => b.l x y (a.l x y h), fun x y h => b.t x y (a.t x y h), fun x y h => b.d x y (a.d x y h), fun x y z w h => b.s x y z w (a.s x y z w h), fun x h => b.p x (a.p x h), fun x y h => b.q x y (a.q x y h), fun x y z h => b.f x y z (a.f x y z h)⟩
/-! an extension of the abstract heap: Evl.Ex of the hand layer -/
theorem _root_.Evl.Ex.rd {H H' : Hp} (e : Ex H H') {a : Addr} {u : HO} (h : Rd H a u) : Rd H' a u := ex_rd e h
theorem _root_.Evl.Ex.le {H H' : Hp} (e : Ex H H') : Le H H' :=
  ⟨fun _ _ h => e _ _ h, fun _ _ h => e.rd h, fun _ _ h => e _ _ h, fun a C dx vs h => by
    rcases h with ⟨h1, h2⟩ | ⟨h1, h2⟩
    · exact .inl ⟨e _ _ h1, h2⟩
    · exact .inr ⟨e _ _ h1, e _ _ h2⟩, fun a ⟨o, u, h1, h2⟩ => ⟨o, u, e _ _ h1, h2⟩, fun _ _ h => e.rd h, fun _ _ _ h => e _ _ h⟩
theorem Le.sqL {K : PySem.W.Frag} {F F' : Hp} (e : Le F F') {a : Addr} {xs : List V} (h : SqL K F a xs) : SqL K F' a xs := by
  rcases h with h | h
  · exact .inl (e.q _ _ h)
  · exact .inr h
theorem Le.sqT {K : PySem.W.Frag} {F F' : Hp} (e : Le F F') {a : Addr} {xs : List V} (h : SqT K F a xs) : SqT K F' a xs := by
  rcases h with h | h
  · exact .inl (e.t _ _ h)
  · exact .inr h

section
variable {K : PySem.W.Frag} {F F' : Hp}
mutual
theorem Rep.mono (e : Le F F') : ∀ {v : V} {d : D}, Rep K F v d → Rep K F' v d
  | _, _, .non => .non
  | _, _, .bl b => .bl b
  | _, _, .int i => .int i
  | _, _, .str x => .str x
  | _, _, .lst h r => .lst (e.l _ _ h) (Reps.mono e r)
  | _, _, .tup h q r => .tup (e.sqT h) (fun z => e.p _ (q z)) (Reps.mono e r)
  | _, _, .dic h r => .dic (e.d _ _ h) (RepKs.mono e r)
  | _, _, .obj h r => .obj (e.s _ _ _ _ h) (RepOs.mono e r)
  | _, _, .scr h => .scr (e.sqL h)
  | _, _, .dicF h r => .dicF (e.f _ _ _ h) (RepKs.mono e r)
theorem Reps.mono (e : Le F F') : ∀ {v : List V} {d : List D}, Reps K F v d → Reps K F' v d
  | _, _, .nil => .nil
  | _, _, .cons h r => .cons (Rep.mono e h) (Reps.mono e r)
theorem RepKs.mono (e : Le F F') : ∀ {v : List (Key × V)} {d : List (Key × D)}, RepKs K F v d → RepKs K F' v d
  | _, _, .nil => .nil
  | _, _, .cons h r => .cons (Rep.mono e h) (RepKs.mono e r)
theorem RepOs.mono (e : Le F F') : ∀ {v : List (Option V)} {d : List (Option D)}, RepOs K F v d → RepOs K F' v d
  | _, _, .nil => .nil
  | _, _, .some h r => .some (Rep.mono e h) (RepOs.mono e r)
  | _, _, .none r => .none (RepOs.mono e r)
end
theorem Reps.length : ∀ {v : List V} {d : List D}, Reps K F v d → v.length = d.length
  | _, _, .nil => rfl
  | _, _, .cons _ r => congrArg (· + 1) (Reps.length r)
theorem Reps.get : ∀ {vs : List V} {ds : List D} {i : Nat} {d : D}, Reps K F vs ds → ds[i]? = some d → ∃ v, vs[i]? = some v ∧ Rep K F v d
  | v :: _, _ :: _, 0, _, .cons r _, e => ⟨v, rfl, Option.some.inj e ▸ r⟩
  | _, _, i + 1, d, .cons _ t, e => by
    obtain ⟨u, h1, h2⟩ := Reps.get (i := i) (d := d) t (by simpa using e)
    exact ⟨u, by simpa using h1, h2⟩
  | _, _, _, _, .nil, e => by simp at e
theorem Reps.append : ∀ {vs ws : List V} {ds es : List D}, Reps K F vs ds → Reps K F ws es → Reps K F (vs ++ ws) (ds ++ es)
  | _, _, _, _, .nil, s => s
  | _, _, _, _, .cons r t, s => .cons r (Reps.append t s)
theorem Reps.take : ∀ {vs : List V} {ds : List D} (n : Nat), Reps K F vs ds → Reps K F (vs.take n) (ds.take n)
  | _, _, 0, _ => by simpa using Reps.nil
  | _, _, _ + 1, .nil => by simpa using Reps.nil
  | _, _, n + 1, .cons r t => by simpa using Reps.cons r (Reps.take n t)
theorem Reps.drop : ∀ {vs : List V} {ds : List D} (n : Nat), Reps K F vs ds → Reps K F (vs.drop n) (ds.drop n)
  | _, _, 0, r => by simpa using r
  | _, _, _ + 1, .nil => by simpa using Reps.nil
  | _, _, n + 1, .cons _ t => by simpa using Reps.drop n t
theorem Reps.set : ∀ {vs : List V} {ds : List D} {v : V} {d : D} (n : Nat), Rep K F v d → Reps K F vs ds → Reps K F (vs.set n v) (ds.set n d)
  | _, _, _, _, _, _, .nil => by simpa using Reps.nil
  | _, _, _, _, 0, h, .cons _ t => by simpa using Reps.cons h t
  | _, _, _, _, n + 1, h, .cons r t => by simpa using Reps.cons r (Reps.set n h t)
theorem Reps.eraseIdx : ∀ {vs : List V} {ds : List D} (n : Nat), Reps K F vs ds → Reps K F (vs.eraseIdx n) (ds.eraseIdx n)
  | _, _, _, .nil => by simpa using Reps.nil
  | _, _, 0, .cons _ t => by simpa using t
  | _, _, n + 1, .cons r t => by simpa using Reps.cons r (Reps.eraseIdx n t)
theorem Reps.reverse : ∀ {vs : List V} {ds : List D}, Reps K F vs ds → Reps K F vs.reverse ds.reverse
  | _, _, .nil => by simpa using Reps.nil
  | _, _, .cons r t => by simpa using Reps.append (Reps.reverse t) (Reps.cons r .nil)
theorem RepKs.length : ∀ {v : List (Key × V)} {d : List (Key × D)}, RepKs K F v d → v.length = d.length
  | _, _, .nil => rfl
  | _, _, .cons _ r => congrArg (· + 1) (RepKs.length r)
end

/-! ### the def's slots as data: a value that is shared, or a thing of its own -/
inductive Ent where
  | v (d : D) | o (d : D)
def Ent.d : Ent → D
  | .v d => d
  | .o d => d
abbrev En := List (Option Ent)
/-- the thing at a stands by itself, not in the view F; what is in it is in F -/
def Own (K : PySem.W.Frag) (F H : Hp) (a : Addr) : D → Prop
  | .lst ds => F a = none ∧ ∃ vs, H a = some (.lst vs) ∧ Reps K F vs ds
  | .dic ks => F a = none ∧ ∃ kvs, H a = some (.dK kvs) ∧ RepKs K F kvs ks
  | _ => False
theorem Own.free {K : PySem.W.Frag} {F H : Hp} {a : Addr} {d : D} (h : Own K F H a d) : F a = none := by
  cases d <;> first | exact h.1 | exact h.elim
theorem Own.there {K : PySem.W.Frag} {F H : Hp} {a : Addr} {d : D} (h : Own K F H a d) : H a ≠ none := by
  cases d with
  | lst ds => obtain ⟨_, vs, e, _⟩ := h; rw [e]; simp
  | dic ds => obtain ⟨_, vs, e, _⟩ := h; rw [e]; simp
  | _ => exact h.elim
theorem Own.move {K : PySem.W.Frag} {F F' H H' : Hp} {a : Addr} {d : D} (h : Own K F H a d) (e : Le F F') (h1 : F' a = F a) (h2 : H' a = H a) : Own K F' H' a d := by
  cases d with
  | lst ds => obtain ⟨f, vs, q, r⟩ := h; exact ⟨h1.trans f, vs, h2.trans q, r.mono e⟩
  | dic ds => obtain ⟨f, vs, q, r⟩ := h; exact ⟨h1.trans f, vs, h2.trans q, r.mono e⟩
  | _ => exact h.elim
def Owned (σ : L2.St) (ρ : En) (a : Addr) : Prop := ∃ (i : Nat) (d : D), ρ[i]? = some (some (.o d)) ∧ σ[i]? = some (some (.ref a))
structure R (K : PySem.W.Frag) (F : Hp) (σ : L2.St) (H : Hp) (ρ : En) : Prop where
  ex : Ex F H
  dom : ∀ a, H a = none → F a = none
  len : ρ.length = σ.length
  val : ∀ (i : Nat) (d : D), ρ[i]? = some (some (.v d)) → ∃ v, σ[i]? = some (some v) ∧ Rep K F v d
  own : ∀ (i : Nat) (d : D), ρ[i]? = some (some (.o d)) → ∃ a, σ[i]? = some (some (.ref a)) ∧ Own K F H a d
  sep : ∀ (i j : Nat) (d e : D) (a : Addr), ρ[i]? = some (some (.o d)) → ρ[j]? = some (some (.o e)) → σ[i]? = some (some (.ref a)) → σ[j]? = some (some (.ref a)) → i = j
structure Step (σ : L2.St) (ρ : En) (F H : Hp) (σ' : L2.St) (ρ' : En) (F' H' : Hp) : Prop where
  le : Le F F'
  keep : ∀ a o, H a = some o → ¬ Owned σ ρ a → H' a = some o
  dom : ∀ a, H' a = none → H a = none
  frz : ∀ a, H a ≠ none → ¬ Owned σ ρ a → F' a = F a
  sub : ∀ a, Owned σ' ρ' a → Owned σ ρ a ∨ H a = none
theorem Step.refl (σ : L2.St) (ρ : En) (F H : Hp) : Step σ ρ F H σ ρ F H := ⟨Le.refl _, fun _ _ h _ => h, fun _ h => h, fun _ _ _ => rfl, fun _ h => .inl h⟩
theorem Step.trans {σ σ1 σ2 : L2.St} {ρ ρ1 ρ2 : En} {F F1 F2 H H1 H2 : Hp} (a : Step σ ρ F H σ1 ρ1 F1 H1) (b : Step σ1 ρ1 F1 H1 σ2 ρ2 F2 H2) : Step σ ρ F H σ2 ρ2 F2 H2 where
  le := a.le.trans b.le
  keep := fun x o h n => b.keep x o (a.keep x o h n) fun z => (a.sub x z).elim n fun q => by rw [h] at q; cases q
  dom := fun x h => a.dom x (b.dom x h)
  frz := fun x h n => (b.frz x (fun z => h (a.dom x z)) fun z => (a.sub x z).elim n h).trans (a.frz x h n)
  sub := fun x h => (b.sub x h).elim (fun z => a.sub x z) fun z => .inr (a.dom x z)

/-! ### operands -/
inductive Opd where
  | val (d : D) | own (d : D) | pl (i : Nat)
/-- a value stands for an operand; H0: the heap ahead of its evaluation -/
def RO (K : PySem.W.Frag) (F H : Hp) (σ : L2.St) (ρ : En) (H0 : Hp) (v : V) : Opd → Prop
  | .val d => Rep K F v d
  | .own d => ∃ a, v = .ref a ∧ H0 a = none ∧ Own K F H a d ∧ ¬ Owned σ ρ a
  | .pl i => σ[i]? = some (some v)
def cur (ρ : En) (i : Nat) : Option D := match ρ[i]? with
  | some (some e) => some e.d
  | _ => none
def rd (ρ : En) : Opd → Option D
  | .val d => some d
  | .own d => some d
  | .pl i => cur ρ i
def relP (ρ : En) (i : Nat) : Option (D × En) := match ρ[i]? with
  | some (some (.v d)) => some (d, ρ)
  | some (some (.o d)) => some (d, ρ.set i (some (.v d)))
  | _ => none
def rel (ρ : En) : Opd → Option (D × En)
  | .val d => some (d, ρ)
  | .own d => some (d, ρ)
  | .pl i => relP ρ i
/-- what is read of an operand: its top in the heap, what is in it in the view -/
def RB (K : PySem.W.Frag) (F H : Hp) (v : V) : D → Prop
  | .lst ds => ∃ a vs, v = .ref a ∧ H a = some (.lst vs) ∧ Reps K F vs ds
  | .dic ds => ∃ a vs, v = .ref a ∧ H a = some (.dK vs) ∧ RepKs K F vs ds
  | d => Rep K F v d
theorem RB.of {K : PySem.W.Frag} {F H : Hp} (e : Le F H) {v : V} {d : D} (h : Rep K F v d) : RB K F H v d := by
  cases h with
  | lst a b => exact ⟨_, _, rfl, e.l _ _ a, b⟩
  | tup a q b => exact .tup a q b
  | dic a b => exact ⟨_, _, rfl, e.d _ _ a, b⟩
  | obj a b => exact .obj a b
  | scr a => exact .scr a
  | dicF a b => exact .dicF a b
  | _ => constructor
theorem RB.own {K : PySem.W.Frag} {F H : Hp} {a : Addr} {d : D} (h : Own K F H a d) : RB K F H (.ref a) d := by
  cases d with
  | lst ds => obtain ⟨_, vs, q, r⟩ := h; exact ⟨_, _, rfl, q, r⟩
  | dic ds => obtain ⟨_, vs, q, r⟩ := h; exact ⟨_, _, rfl, q, r⟩
  | _ => exact h.elim
section
variable {K : PySem.W.Frag} {F F' H H' H0 : Hp} {σ σ' : L2.St} {ρ ρ' : En} {v : V} {w : Opd} {d : D}
theorem cur_some {i : Nat} (h : cur ρ i = some d) : ρ[i]? = some (some (.v d)) ∨ ρ[i]? = some (some (.o d)) := by
  unfold cur at h
  split at h
  · rename_i e q
    cases e with
    | v x => cases h; exact .inl q
    | o x => cases h; exact .inr q
  · cases h
theorem R.rd (r : R K F σ H ρ) (h : RO K F H σ ρ H0 v w) (e : Bl.rd ρ w = some d) : RB K F H v d := by
  cases w with
  | val x => cases e; exact RB.of r.ex.le h
  | own x => cases e; obtain ⟨a, rfl, _, o, _⟩ := h; exact RB.own o
  | pl i =>
    rcases cur_some e with q | q
    · obtain ⟨u, e1, e2⟩ := r.val i d q
      have e3 : some (some v) = some (some u) := h.symm.trans e1
      cases e3
      exact RB.of r.ex.le e2
    · obtain ⟨a, e1, e2⟩ := r.own i d q
      have e3 : some (some v) = some (some (.ref a)) := h.symm.trans e1
      cases e3
      exact RB.own e2
theorem RO.move (s : Step σ ρ F H σ ρ' F' H') (h : RO K F H σ ρ H0 v w) : RO K F' H' σ ρ' H0 v w := by
  cases w with
  | val d => exact Rep.mono s.le h
  | own d =>
    obtain ⟨a, e, h0, o, n⟩ := h
    have ht : H a ≠ none := o.there
    refine ⟨a, e, h0, o.move s.le (s.frz a ht n) ?_, fun z => (s.sub a z).elim n ht⟩
    cases q : H a with
    | none => exact absurd q ht
    | some u => exact s.keep a u q n
  | pl i => exact h
/-- an own thing is given to the view -/
theorem R.give (r : R K F σ H ρ) {a : Addr} (o : Own K F H a d) (n : ¬ Owned σ ρ a) : ∃ F', R K F' σ H ρ ∧ Ex F F' ∧ (∀ b, b ≠ a → F' b = F b) ∧ Rep K F' (.ref a) d := by
  have hf := o.free
  obtain ⟨u, hu⟩ : ∃ u, H a = some u := by
    cases q : H a with
    | none => exact absurd q o.there
    | some u => exact ⟨u, rfl⟩
  have ex : Ex F (upd F a u) := Ex.new hf
  refine ⟨upd F a u, ⟨?_, ?_, r.len, ?_, ?_, r.sep⟩, ex, fun b hb => upd_ne hb, ?_⟩
  · intro b x h
    by_cases hb : b = a
    · subst hb; rw [upd_same] at h; rw [hu]; exact h
    · rw [upd_ne hb] at h; exact r.ex b x h
  · intro b hb
    have : b ≠ a := fun z => by subst z; rw [hu] at hb; cases hb
    rw [upd_ne this]; exact r.dom b hb
  · intro i e q
    obtain ⟨x, h1, h2⟩ := r.val i e q
    exact ⟨x, h1, h2.mono ex.le⟩
  · intro i e q
    obtain ⟨b, h1, h2⟩ := r.own i e q
    refine ⟨b, h1, h2.move ex.le (upd_ne fun z => n ⟨i, e, q, by rw [← z]; exact h1⟩) rfl⟩
  · cases d with
    | lst ds =>
      obtain ⟨_, vs, q, rr⟩ := o
      rw [hu] at q; cases q
      exact .lst upd_same (rr.mono ex.le)
    | dic ds =>
      obtain ⟨_, vs, q, rr⟩ := o
      rw [hu] at q; cases q
      exact .dic upd_same (rr.mono ex.le)
    | _ => exact o.elim
theorem getElem?_set_some {α : Type} {l : List α} {i j : Nat} {x y : α} (h : (l.set i x)[j]? = some y) : (j = i ∧ y = x) ∨ (j ≠ i ∧ l[j]? = some y) := by
  by_cases e : j = i
  · subst e
    rw [List.getElem?_set_self'] at h
    cases q : l[j]? with
    | none => rw [q] at h; simp at h
    | some z => rw [q] at h; simp at h; exact .inl ⟨rfl, h.symm⟩
  · rw [List.getElem?_set_ne (Ne.symm e)] at h
    exact .inr ⟨e, h⟩
theorem R.relP (r : R K F σ H ρ) {i : Nat} (h : σ[i]? = some (some v)) (e : Bl.relP ρ i = some (d, ρ')) : ∃ F', R K F' σ H ρ' ∧ Step σ ρ F H σ ρ' F' H ∧ Rep K F' v d := by
  unfold Bl.relP at e
  split at e
  · rename_i x q
    cases e
    obtain ⟨u, e1, e2⟩ := r.val i _ q
    have e3 : some (some v) = some (some u) := h.symm.trans e1
    cases e3
    exact ⟨F, r, Step.refl _ _ _ _, e2⟩
  · rename_i x q
    cases e
    obtain ⟨a, e1, e2⟩ := r.own i _ q
    have e3 : some (some v) = some (some (.ref a)) := h.symm.trans e1
    cases e3
    -- without the slot
    have hi : i < ρ.length := (List.getElem?_eq_some_iff.mp q).1
    have nO : ¬ Owned σ (ρ.set i (some (.v d))) a := by
      rintro ⟨j, y, h1, h2⟩
      rcases getElem?_set_some h1 with ⟨_, z⟩ | ⟨hj, z⟩
      · cases z
      · exact hj (r.sep j i y d a z q h2 h)
    have sub : ∀ b, Owned σ (ρ.set i (some (.v d))) b → Owned σ ρ b := by
      rintro b ⟨j, y, h1, h2⟩
      rcases getElem?_set_some h1 with ⟨_, z⟩ | ⟨hj, z⟩
      · cases z
      · exact ⟨j, y, z, h2⟩
    -- the slot's value stands for nothing yet: first forget it
    have r0 : R K F σ H (ρ.set i none) := by
      refine ⟨r.ex, r.dom, by simpa using r.len, fun j y z => ?_, fun j y z => ?_, fun j k y y' b z z' => ?_⟩
      · rcases getElem?_set_some z with ⟨_, w⟩ | ⟨_, w⟩
        · cases w
        · exact r.val j y w
      · rcases getElem?_set_some z with ⟨_, w⟩ | ⟨_, w⟩
        · cases w
        · exact r.own j y w
      · rcases getElem?_set_some z with ⟨_, w⟩ | ⟨_, w⟩
        · cases w
        · rcases getElem?_set_some z' with ⟨_, w'⟩ | ⟨_, w'⟩
          · cases w'
          · exact r.sep j k y y' b w w'
    have n0 : ¬ Owned σ (ρ.set i none) a := by
      rintro ⟨j, y, h1, h2⟩
      rcases getElem?_set_some h1 with ⟨_, z⟩ | ⟨hj, z⟩
      · cases z
      · exact hj (r.sep j i y d a z q h2 h)
    obtain ⟨F', r1, ex, oth, rep⟩ := r0.give e2 n0
    refine ⟨F', ⟨r1.ex, r1.dom, by simpa using r.len, fun j y z => ?_, fun j y z => ?_, fun j k y y' b z z' => ?_⟩, ⟨ex.le, fun _ _ z _ => z, fun _ z => z, fun b hb nb => oth b fun z => nb ⟨i, d, q, by rw [z]; exact h⟩, fun b z => .inl (sub b z)⟩, rep⟩
    · rcases getElem?_set_some z with ⟨hj, w⟩ | ⟨hj, w⟩
      · cases w; subst hj; exact ⟨_, h, rep⟩
      · exact r1.val j y (by rw [List.getElem?_set_ne (Ne.symm hj)]; exact w)
    · rcases getElem?_set_some z with ⟨hj, w⟩ | ⟨hj, w⟩
      · cases w
      · exact r1.own j y (by rw [List.getElem?_set_ne (Ne.symm hj)]; exact w)
    · rcases getElem?_set_some z with ⟨hj, w⟩ | ⟨hj, w⟩
      · cases w
      · rcases getElem?_set_some z' with ⟨hj', w'⟩ | ⟨hj', w'⟩
        · cases w'
        · exact r.sep j k y y' b w w'
  · cases e
theorem R.rel {F0 : Hp} {ρ0 : En} (r : R K F σ H ρ) (s : Step σ ρ0 F0 H0 σ ρ F H) (h : RO K F H σ ρ H0 v w) (e : Bl.rel ρ w = some (d, ρ')) : ∃ F', R K F' σ H ρ' ∧ Step σ ρ0 F0 H0 σ ρ' F' H ∧ Rep K F' v d := by
  cases w with
  | val x => cases e; exact ⟨F, r, s, h⟩
  | own x =>
    cases e
    obtain ⟨a, rfl, h0, o, n⟩ := h
    obtain ⟨F', r1, ex, oth, rep⟩ := r.give o n
    refine ⟨F', r1, ⟨s.le.trans ex.le, s.keep, s.dom, fun b hb nb => ?_, s.sub⟩, rep⟩
    rw [oth b fun z => hb (by rw [z]; exact h0)]
    exact s.frz b hb nb
  | pl i =>
    obtain ⟨F', r1, s1, rep⟩ := r.relP h e
    exact ⟨F', r1, s.trans s1, rep⟩
end
end Bl
namespace Bl
open PySem PySem.Spec PyProof.Rows L2 Evl

abbrev Ev := En → Option (Opd × En)
abbrev Evs := En → Option (List D × En)
abbrev Tv := En → Option (Bool × En)
def DX (K : PySem.W.Frag) (te : TE) (f : Ev) : Prop := ∀ (F : Hp) (σ : L2.St) (H : Hp) (ρ : En) (w : Opd) (ρ' : En) (Q : VK), R K F σ H ρ → f ρ = some (w, ρ') →
  (∀ v F' H', R K F' σ H' ρ' → Step σ ρ F H σ ρ' F' H' → RO K F' H' σ ρ' H v w → Q v H') → te σ H Q
def DA (K : PySem.W.Frag) (ta : TA) (f : Evs) : Prop := ∀ (F : Hp) (σ : L2.St) (H : Hp) (ρ : En) (ds : List D) (ρ' : En) (Q : List V → Hp → Prop), R K F σ H ρ → f ρ = some (ds, ρ') →
  (∀ vs F' H', R K F' σ H' ρ' → Step σ ρ F H σ ρ' F' H' → Reps K F' vs ds → Q vs H') → ta σ H Q
def DT (K : PySem.W.Frag) (tt : TT) (f : Tv) : Prop := ∀ (F : Hp) (σ : L2.St) (H : Hp) (ρ : En) (b : Bool) (ρ' : En) (Q : Bool → Hp → Prop), R K F σ H ρ → f ρ = some (b, ρ') →
  (∀ F' H', R K F' σ H' ρ' → Step σ ρ F H σ ρ' F' H' → Q b H') → tt σ H Q

/-! ### names, constants -/
def sVar (i : Nat) : Ev := fun ρ => match ρ[i]? with
  | some (some _) => some (.pl i, ρ)
  | _ => none
def sC (d : D) : Ev := fun ρ => some (.val d, ρ)
section
variable {K : PySem.W.Frag}
theorem dx_var (i : Nat) : DX K (tVar i) (sVar i) := by
  intro F σ H ρ w ρ' Q r e k
  unfold sVar at e
  split at e
  · rename_i z q
    cases e
    cases z with
    | v d =>
      obtain ⟨v, h1, h2⟩ := r.val i d q
      exact ⟨v, h1, k v F H r (Step.refl _ _ _ _) h1⟩
    | o d =>
      obtain ⟨a, h1, h2⟩ := r.own i d q
      exact ⟨.ref a, h1, k _ F H r (Step.refl _ _ _ _) h1⟩
  · cases e
theorem dx_c {v : V} {d : D} (h : ∀ F, Rep K F v d) : DX K (tC v) (sC d) := by
  intro F σ H ρ w ρ' Q r e k
  cases e
  exact k v F H r (Step.refl _ _ _ _) (h F)
/-! ### values are given away -/
def sRel (f : Ev) : Ev := fun ρ => (f ρ).bind fun p => (rel p.2 p.1).map fun q => (.val q.1, q.2)
theorem DX.rel {te : TE} {f : Ev} (h : DX K te f) : DX K te (sRel f) := by
  intro F σ H ρ w ρ' Q r e k
  unfold sRel at e
  cases e1 : f ρ with
  | none => rw [e1] at e; cases e
  | some p =>
    obtain ⟨w1, ρ1⟩ := p
    rw [e1] at e
    simp only [Option.bind_some] at e
    cases e2 : Bl.rel ρ1 w1 with
    | none => rw [e2] at e; cases e
    | some q =>
      obtain ⟨d, ρ2⟩ := q
      rw [e2] at e
      cases e
      refine h F σ H ρ w1 ρ1 Q r e1 fun v F' H' r1 s1 o1 => ?_
      obtain ⟨F2, r2, s2, rep⟩ := r1.rel s1 o1 e2
      exact k v F2 H' r2 s2 rep
/-! ### arguments, all given away -/
def sNil : Evs := fun ρ => some ([], ρ)
def sCons (f : Ev) (fs : Evs) : Evs := fun ρ => (f ρ).bind fun p => (rel p.2 p.1).bind fun q => (fs q.2).map fun z => (q.1 :: z.1, z.2)
theorem da_nil : DA K tNil sNil := by
  intro F σ H ρ ds ρ' Q r e k
  cases e
  exact k [] F H r (Step.refl _ _ _ _) .nil
theorem da_cons {te : TE} {ta : TA} {f : Ev} {fs : Evs} (h : DX K te f) (hs : DA K ta fs) : DA K (tCons te ta) (sCons f fs) := by
  intro F σ H ρ ds ρ' Q r e k
  unfold sCons at e
  cases e1 : f ρ with
  | none => rw [e1] at e; cases e
  | some p =>
    obtain ⟨w1, ρ1⟩ := p
    rw [e1] at e
    simp only [Option.bind_some] at e
    cases e2 : Bl.rel ρ1 w1 with
    | none => rw [e2] at e; cases e
    | some q =>
      obtain ⟨d, ρ2⟩ := q
      rw [e2] at e
      simp only [Option.bind_some] at e
      cases e3 : fs ρ2 with
      | none => rw [e3] at e; cases e
      | some z =>
        obtain ⟨es, ρ3⟩ := z
        rw [e3] at e
        cases e
        refine h F σ H ρ w1 ρ1 _ r e1 fun v F' H' r1 s1 o1 => ?_
        obtain ⟨F2, r2, s2, rep⟩ := r1.rel s1 o1 e2
        refine hs F2 σ H' ρ2 es _ _ r2 e3 fun vs F3 H3 r3 s3 reps => ?_
        exact k _ F3 H3 r3 (s2.trans s3) (.cons (rep.mono s3.le) reps)
/-! ### a new thing -/
theorem R.new {F H : Hp} {σ : L2.St} {ρ : En} {p : Addr} {o : HO} (r : R K F σ H ρ) (hp : H p = none) : R K (upd F p o) σ (upd H p o) ρ ∧ Step σ ρ F H σ ρ (upd F p o) (upd H p o) := by
  have fp := r.dom p hp
  have ex : Ex F (upd F p o) := Ex.new fp
  have exH : Ex H (upd H p o) := Ex.new hp
  have hn : ¬ Owned σ ρ p := by
    rintro ⟨i, d, h1, h2⟩
    obtain ⟨a, h3, h4⟩ := r.own i d h1
    have e : some (some (V.ref p)) = some (some (V.ref a)) := h2.symm.trans h3
    cases e
    exact h4.there hp
  refine ⟨⟨?_, ?_, r.len, ?_, ?_, r.sep⟩, ex.le, fun b u h _ => exH b u h, fun b h => ?_, fun b h _ => upd_ne fun z => h (by rw [z]; exact hp), fun b h => .inl h⟩
  · intro b x h
    by_cases hb : b = p
    · subst hb; rw [upd_same] at h ⊢; exact h
    · rw [upd_ne hb] at h ⊢; exact r.ex b x h
  · intro b hb
    by_cases e : b = p
    · subst e; rw [upd_same] at hb; cases hb
    · rw [upd_ne e] at hb ⊢; exact r.dom b hb
  · intro i d h
    obtain ⟨v, h1, h2⟩ := r.val i d h
    exact ⟨v, h1, h2.mono ex.le⟩
  · intro i d h
    obtain ⟨a, h1, h2⟩ := r.own i d h
    have na : a ≠ p := fun z => hn ⟨i, d, h, by rw [← z]; exact h1⟩
    exact ⟨a, h1, h2.move ex.le (upd_ne na) (upd_ne na)⟩
  · by_cases e : b = p
    · rw [e]; exact hp
    · rw [upd_ne e] at h; exact h

theorem R.newOwn {F H : Hp} {σ : L2.St} {ρ : En} {p : Addr} {o : HO} (r : R K F σ H ρ) (hp : H p = none) : R K F σ (upd H p o) ρ ∧ Step σ ρ F H σ ρ F (upd H p o) ∧ F p = none ∧ ¬ Owned σ ρ p := by
  have fp := r.dom p hp
  have exH : Ex H (upd H p o) := Ex.new hp
  have hn : ¬ Owned σ ρ p := by
    rintro ⟨i, d, h1, h2⟩
    obtain ⟨a, h3, h4⟩ := r.own i d h1
    have e : some (some (V.ref p)) = some (some (V.ref a)) := h2.symm.trans h3
    cases e
    exact h4.there hp
  refine ⟨⟨r.ex.trans exH, fun b hb => ?_, r.len, r.val, fun i d h => ?_, r.sep⟩, ⟨Le.refl _, fun b u h _ => exH b u h, fun b h => ?_, fun b h _ => rfl, fun b h => .inl h⟩, fp, hn⟩
  · by_cases e : b = p
    · subst e; rw [upd_same] at hb; cases hb
    · rw [upd_ne e] at hb; exact r.dom b hb
  · obtain ⟨a, h1, h2⟩ := r.own i d h
    have na : a ≠ p := fun z => hn ⟨i, d, h, by rw [← z]; exact h1⟩
    exact ⟨a, h1, h2.move (Le.refl _) rfl (upd_ne na)⟩
  · by_cases e : b = p
    · rw [e]; exact hp
    · rw [upd_ne e] at h; exact h
/-- an own list is new -/
theorem RO.newL {F H : Hp} {σ : L2.St} {ρ : En} {p : Addr} {vs : List V} {ds : List D} (r : R K F σ H ρ) (hp : H p = none) (h : Reps K F vs ds) : RO K F (upd H p (.lst vs)) σ ρ H (.ref p) (.own (.lst ds)) :=
  have z := r.newOwn (o := .lst vs) hp
  ⟨p, rfl, hp, ⟨z.2.2.1, vs, upd_same, h⟩, z.2.2.2⟩
theorem RO.newD {F H : Hp} {σ : L2.St} {ρ : En} {p : Addr} {vs : List (Key × V)} {ds : List (Key × D)} (r : R K F σ H ρ) (hp : H p = none) (h : RepKs K F vs ds) : RO K F (upd H p (.dK vs)) σ ρ H (.ref p) (.own (.dic ds)) :=
  have z := r.newOwn (o := .dK vs) hp
  ⟨p, rfl, hp, ⟨z.2.2.1, vs, upd_same, h⟩, z.2.2.2⟩
/-! ### operations on what is read -/
/-- what a pure step gives -/
def Gv (K : PySem.W.Frag) (F : Hp) (σ : L2.St) (H : Hp) (ρ : En) (w : Opd) (Q : VK) : Prop := ∀ v F' H', R K F' σ H' ρ → Step σ ρ F H σ ρ F' H' → RO K F' H' σ ρ H v w → Q v H'
def OpD (K : PySem.W.Frag) (r : R2) (g : D → D → Option Opd) : Prop := ∀ (F : Hp) (σ : L2.St) (H : Hp) (ρ : En) (x y : V) (dx dy : D) (w : Opd) (Q : VK), R K F σ H ρ → RB K F H x dx → RB K F H y dy → g dx dy = some w → Gv K F σ H ρ w Q → r x y H Q
def UnD (K : PySem.W.Frag) (r : V → Hp → VK → Prop) (g : D → Option Opd) : Prop := ∀ (F : Hp) (σ : L2.St) (H : Hp) (ρ : En) (x : V) (dx : D) (w : Opd) (Q : VK), R K F σ H ρ → RB K F H x dx → g dx = some w → Gv K F σ H ρ w Q → r x H Q
def sOp (g : D → D → Option Opd) (f1 f2 : Ev) : Ev := fun ρ => (f1 ρ).bind fun p => (f2 p.2).bind fun q => (rd q.2 p.1).bind fun a => (rd q.2 q.1).bind fun b => (g a b).map fun w => (w, q.2)
def sUn (g : D → Option Opd) (f1 : Ev) : Ev := fun ρ => (f1 ρ).bind fun p => (rd p.2 p.1).bind fun a => (g a).map fun w => (w, p.2)
theorem RO.base {F H H0 H1 : Hp} {σ : L2.St} {ρ : En} {v : V} {w : Opd} (s : ∀ a, H1 a = none → H0 a = none) (h : RO K F H σ ρ H1 v w) : RO K F H σ ρ H0 v w := by
  cases w with
  | val d => exact h
  | own d => obtain ⟨a, e, h0, o, n⟩ := h; exact ⟨a, e, s a h0, o, n⟩
  | pl i => exact h
theorem dx_op {r : R2} {g : D → D → Option Opd} {ta tb : TE} {f1 f2 : Ev} (hr : OpD K r g) (ha : DX K ta f1) (hb : DX K tb f2) : DX K (tOp r ta tb) (sOp g f1 f2) := by
  intro F σ H ρ w ρ' Q r0 e k
  unfold sOp at e
  obtain ⟨⟨w1, ρ1⟩, e1, e⟩ := Option.bind_eq_some_iff.mp e
  obtain ⟨⟨w2, ρ2⟩, e2, e⟩ := Option.bind_eq_some_iff.mp e
  obtain ⟨a, e3, e⟩ := Option.bind_eq_some_iff.mp e
  obtain ⟨b, e4, e⟩ := Option.bind_eq_some_iff.mp e
  obtain ⟨w3, e5, e⟩ := Option.map_eq_some_iff.mp e
  cases e
  refine ha F σ H ρ w1 ρ1 _ r0 e1 fun x F1 H1 r1 s1 o1 => ?_
  refine hb F1 σ H1 ρ1 w2 ρ2 _ r1 e2 fun y F2 H2 r2 s2 o2 => ?_
  refine hr F2 σ H2 ρ2 x y a b w Q r2 (r2.rd (o1.move s2) e3) (r2.rd o2 e4) e5 fun v F3 H3 r3 s3 o3 => ?_
  exact k v F3 H3 r3 ((s1.trans s2).trans s3) (o3.base fun z hz => s1.dom z (s2.dom z hz))
theorem dx_un {r : V → Hp → VK → Prop} {g : D → Option Opd} {ta : TE} {f1 : Ev} (hr : UnD K r g) (ha : DX K ta f1) : DX K (tUn r ta) (sUn g f1) := by
  intro F σ H ρ w ρ' Q r0 e k
  unfold sUn at e
  obtain ⟨⟨w1, ρ1⟩, e1, e⟩ := Option.bind_eq_some_iff.mp e
  obtain ⟨a, e3, e⟩ := Option.bind_eq_some_iff.mp e
  obtain ⟨w3, e5, e⟩ := Option.map_eq_some_iff.mp e
  cases e
  refine ha F σ H ρ w1 ρ1 _ r0 e1 fun x F1 H1 r1 s1 o1 => ?_
  refine hr F1 σ H1 ρ1 x a w Q r1 (r1.rd o1 e3) e5 fun v F3 H3 r3 s3 o3 => ?_
  exact k v F3 H3 r3 (s1.trans s3) (o3.base fun z hz => s1.dom z hz)
/-- a built-in called with one thing, two things -/
theorem dx_cb1 {r : List V → Hp → VK → Prop} {g : D → Option Opd} {ta : TE} {f1 : Ev} (hr : UnD K (fun x => r [x]) g) (ha : DX K ta f1) : DX K (tCB r (tCons ta tNil)) (sUn g f1) := dx_un hr ha
theorem dx_cb2 {r : List V → Hp → VK → Prop} {g : D → D → Option Opd} {ta tb : TE} {f1 f2 : Ev} (hr : OpD K (fun x y => r [x, y]) g) (ha : DX K ta f1) (hb : DX K tb f2) : DX K (tCB r (tCons ta (tCons tb tNil))) (sOp g f1 f2) := dx_op hr ha hb
/-- flat answers -/
theorem Gv.flat {F H : Hp} {σ : L2.St} {ρ : En} {d : D} {v : V} {Q : VK} (k : Gv K F σ H ρ (.val d) Q) (r : R K F σ H ρ) (h : Rep K F v d) : Q v H := k v F H r (Step.refl _ _ _ _) h
theorem Gv.newT {F H : Hp} {σ : L2.St} {ρ : En} {ds : List D} {vs : List V} {p : Addr} {Q : VK} (k : Gv K F σ H ρ (.val (.tup ds)) Q) (r : R K F σ H ρ) (hp : H p = none) (h : Reps K F vs ds) (n : allP ds = false) : Q (.ref p) (upd H p (.tup vs)) := by
  have z := r.new (o := .tup vs) hp
  exact k _ _ _ z.1 z.2 (.tup (SqT.of upd_same) (fun q => by rw [n] at q; cases q) (h.mono (Ex.new (r.dom p hp)).le))
theorem Gv.newF {F H : Hp} {σ : L2.St} {ρ : En} {ds : List D} {vs : List V} {p : Addr} {o : Obj} {Q : VK} (k : Gv K F σ H ρ (.val (.tup ds)) Q) (r : R K F σ H ρ) (hp : H p = none) (ho : o.dict = none) (h : Reps K F vs ds) : Q (.ref p) (upd H p (.frz o (.tup vs))) := by
  have z := r.new (o := .frz o (.tup vs)) hp
  exact k _ _ _ z.1 z.2 (.tup (.inl (.inr ⟨o, upd_same⟩)) (fun _ => ⟨o, _, upd_same, ho⟩) (h.mono (Ex.new (r.dom p hp)).le))
/-! ### a tuple's display, its object told -/
def tTupF (t : TA) : TE := fun σ H Q => t σ H fun xs H1 => xs.length ≤ sizeLine ∧ ∀ p o, H1 p = none → o.dict = none → Q (.ref p) (upd H1 p (.frz o (.tup xs)))
theorem pe_tupF {X : Cx} {es : List Expr} {n : Nat} {pos : Pos} {t : TA} (h : PA X es t) : PE X (.Tuple es n pos) (tTupF t) := by
  constructor
  intro pins s σ H Q I hq
  refine wpAny_Tuple_spliced (thn (h.run pos pins s σ H _ I hq) ?_)
  rintro us s1 ⟨xs, H1, I1, r, z, q⟩
  have e := r.length
  have new := Heap.get?_push_size (h := s1.heap) (o := { cls := .type "tuple", data := .seq us.toArray }) rfl
  refine ⟨e ▸ z, .ref s1.heap.objs.size, _, I1.laid (o := .frz _ (.tup xs)) (t' := s1.toks) (fun _ _ => Heap.get?_push_of_some _) (Nat.le_refl _) ⟨new, z, us, r, _, new, rfl, _, rfl⟩, rfl, q _ _ (I1.hok.fresh (Nat.le_refl _)) rfl⟩
theorem Gv.newL {F H : Hp} {σ : L2.St} {ρ : En} {ds : List D} {vs : List V} {p : Addr} {Q : VK} (k : Gv K F σ H ρ (.own (.lst ds)) Q) (r : R K F σ H ρ) (hp : H p = none) (h : Reps K F vs ds) : Q (.ref p) (upd H p (.lst vs)) := by
  have z := r.newOwn (o := .lst vs) hp
  exact k _ _ _ z.1 z.2.1 (RO.newL r hp h)
theorem Gv.newD {F H : Hp} {σ : L2.St} {ρ : En} {ds : List (Key × D)} {vs : List (Key × V)} {p : Addr} {Q : VK} (k : Gv K F σ H ρ (.own (.dic ds)) Q) (r : R K F σ H ρ) (hp : H p = none) (h : RepKs K F vs ds) : Q (.ref p) (upd H p (.dK vs)) := by
  have z := r.newOwn (o := .dK vs) hp
  exact k _ _ _ z.1 z.2.1 (RO.newD r hp h)
/-! ### displays -/
def sTup (fs : Evs) : Ev := fun ρ => (fs ρ).bind fun p => if p.1.length ≤ 1000000 then some (.val (.tup p.1), p.2) else none
def sLst (fs : Evs) : Ev := fun ρ => (fs ρ).bind fun p => if p.1.length ≤ 1000000 then some (.own (.lst p.1), p.2) else none
theorem szl {n : Nat} (h : n ≤ 1000000) : n ≤ sizeLine := Nat.le_trans h (by decide)
theorem szlt {n : Nat} (h : n < 1000000) : n < sizeLine := Nat.lt_of_lt_of_le h (by decide)
theorem dx_tup {ta : TA} {fs : Evs} (h : DA K ta fs) : DX K (tTupF ta) (sTup fs) := by
  intro F σ H ρ w ρ' Q r0 e k
  unfold sTup at e
  obtain ⟨⟨ds, ρ1⟩, e1, e⟩ := Option.bind_eq_some_iff.mp e
  split at e
  · rename_i hz
    cases e
    refine h F σ H ρ ds _ _ r0 e1 fun vs F1 H1 r1 s1 reps => ⟨by rw [reps.length]; exact szl hz, fun p o hp ho => ?_⟩
    have k' : Gv K F1 σ H1 _ (.val (.tup ds)) Q := fun v F2 H2 r2 s2 o2 => k v F2 H2 r2 (s1.trans s2) o2
    exact k'.newF r1 hp ho reps
  · cases e
theorem dx_lst {ta : TA} {fs : Evs} (h : DA K ta fs) : DX K (tLst ta) (sLst fs) := by
  intro F σ H ρ w ρ' Q r0 e k
  unfold sLst at e
  obtain ⟨⟨ds, ρ1⟩, e1, e⟩ := Option.bind_eq_some_iff.mp e
  split at e
  · rename_i hz
    cases e
    refine h F σ H ρ ds _ _ r0 e1 fun vs F1 H1 r1 s1 reps => ⟨by rw [reps.length]; exact szl hz, fun p hp => ?_⟩
    have z := r1.newOwn (o := .lst vs) hp
    exact k _ _ _ z.1 (s1.trans z.2.1) ((RO.newL r1 hp reps).base s1.dom)
  · cases e
/-! ### tests -/
def sB (f : Ev) : Tv := fun ρ => (f ρ).bind fun p => match rd p.2 p.1 with
  | some (.bl b) => some (b, p.2)
  | _ => none
def sAnd (f g : Tv) : Tv := fun ρ => (f ρ).bind fun p => if p.1 = true then g p.2 else some (false, p.2)
def sOr (f g : Tv) : Tv := fun ρ => (f ρ).bind fun p => if p.1 = true then some (true, p.2) else g p.2
def sNot (f : Tv) : Tv := fun ρ => (f ρ).map fun p => (!p.1, p.2)
def sIf (c : Tv) (f g : Ev) : Ev := fun ρ => (c ρ).bind fun p => if p.1 = true then f p.2 else g p.2
theorem rb_bl {F H : Hp} {v : V} {b : Bool} (h : RB K F H v (.bl b)) : v = .bl b := by
  have h : Rep K F v (.bl b) := h
  cases h; rfl
theorem dt_B {te : TE} {f : Ev} (h : DX K te f) : DT K (tB te) (sB f) := by
  intro F σ H ρ b ρ' Q r0 e k
  unfold sB at e
  obtain ⟨⟨w1, ρ1⟩, e1, e⟩ := Option.bind_eq_some_iff.mp e
  split at e
  · rename_i c ec
    cases e
    refine h F σ H ρ w1 _ _ r0 e1 fun v F1 H1 r1 s1 o1 => ?_
    exact ⟨b, rb_bl (r1.rd o1 ec), k F1 H1 r1 s1⟩
  · cases e
theorem dt_test {te : TE} {f : Ev} (h : DX K te f) : DT K (tTest te) (sB f) := dt_B h
theorem dt_and {t u : TT} {f g : Tv} (h1 : DT K t f) (h2 : DT K u g) : DT K (tAnd t u) (sAnd f g) := by
  intro F σ H ρ b ρ' Q r0 e k
  unfold sAnd at e
  obtain ⟨⟨c, ρ1⟩, e1, e⟩ := Option.bind_eq_some_iff.mp e
  refine h1 F σ H ρ c ρ1 _ r0 e1 fun F1 H1 r1 s1 => ?_
  cases c with
  | true => exact h2 F1 σ H1 ρ1 b ρ' Q r1 (by simpa using e) fun F2 H2 r2 s2 => k F2 H2 r2 (s1.trans s2)
  | false =>
    have e' : some (false, ρ1) = some (b, ρ') := by simpa using e
    cases e'
    exact k F1 H1 r1 s1
theorem dt_or {t u : TT} {f g : Tv} (h1 : DT K t f) (h2 : DT K u g) : DT K (tOr t u) (sOr f g) := by
  intro F σ H ρ b ρ' Q r0 e k
  unfold sOr at e
  obtain ⟨⟨c, ρ1⟩, e1, e⟩ := Option.bind_eq_some_iff.mp e
  refine h1 F σ H ρ c ρ1 _ r0 e1 fun F1 H1 r1 s1 => ?_
  cases c with
  | false => exact h2 F1 σ H1 ρ1 b ρ' Q r1 (by simpa using e) fun F2 H2 r2 s2 => k F2 H2 r2 (s1.trans s2)
  | true =>
    have e' : some (true, ρ1) = some (b, ρ') := by simpa using e
    cases e'
    exact k F1 H1 r1 s1
theorem dt_not {t : TT} {f : Tv} (h : DT K t f) : DT K (tNot t) (sNot f) := by
  intro F σ H ρ b ρ' Q r0 e k
  obtain ⟨⟨c, ρ1⟩, e1, e⟩ := Option.map_eq_some_iff.mp e
  cases e
  exact h F σ H ρ c ρ1 _ r0 e1 fun F1 H1 r1 s1 => k F1 H1 r1 s1
theorem dx_if {t : TT} {ta tb : TE} {c : Tv} {f g : Ev} (h : DT K t c) (h1 : DX K ta f) (h2 : DX K tb g) : DX K (tIf t ta tb) (sIf c f g) := by
  intro F σ H ρ w ρ' Q r0 e k
  unfold sIf at e
  obtain ⟨⟨b, ρ1⟩, e1, e⟩ := Option.bind_eq_some_iff.mp e
  refine h F σ H ρ b ρ1 _ r0 e1 fun F1 H1 r1 s1 => ?_
  cases b with
  | true => exact h1 F1 σ H1 ρ1 w ρ' Q r1 (by simpa using e) fun v F2 H2 r2 s2 o => k v F2 H2 r2 (s1.trans s2) (o.base s1.dom)
  | false => exact h2 F1 σ H1 ρ1 w ρ' Q r1 (by simpa using e) fun v F2 H2 r2 s2 o => k v F2 H2 r2 (s1.trans s2) (o.base s1.dom)
/-- and, or as values, tests ahead -/
def sTB (c : Tv) : Ev := fun ρ => (c ρ).map fun p => (.val (.bl p.1), p.2)
def sAndV (f g : Ev) : Ev := fun ρ => (sB f ρ).bind fun p => if p.1 = true then g p.2 else some (.val (.bl false), p.2)
def sOrV (f g : Ev) : Ev := fun ρ => (sB f ρ).bind fun p => if p.1 = true then some (.val (.bl true), p.2) else g p.2
def sNotV (f : Ev) : Ev := fun ρ => (sB f ρ).map fun p => (.val (.bl (!p.1)), p.2)
theorem dx_andV {ta tb : TE} {f g : Ev} (h1 : DX K ta f) (h2 : DX K tb g) : DX K (tAndV ta tb) (sAndV f g) := by
  intro F σ H ρ w ρ' Q r0 e k
  obtain ⟨⟨c, ρ1⟩, e1, e⟩ := Option.bind_eq_some_iff.mp e
  refine dt_B h1 F σ H ρ c ρ1 (fun c H1 => if c = true then tb σ H1 Q else Q (.bl false) H1) r0 e1 fun F1 H1 r1 s1 => ?_
  cases c with
  | true => exact h2 F1 σ H1 ρ1 w ρ' Q r1 (by simpa using e) fun v F2 H2 r2 s2 o => k v F2 H2 r2 (s1.trans s2) (o.base s1.dom)
  | false =>
    have e' : some (Opd.val (.bl false), ρ1) = some (w, ρ') := by simpa using e
    cases e'
    exact k _ F1 H1 r1 s1 (.bl false)
theorem dx_orV {ta tb : TE} {f g : Ev} (h1 : DX K ta f) (h2 : DX K tb g) : DX K (tOrV ta tb) (sOrV f g) := by
  intro F σ H ρ w ρ' Q r0 e k
  obtain ⟨⟨c, ρ1⟩, e1, e⟩ := Option.bind_eq_some_iff.mp e
  refine dt_B h1 F σ H ρ c ρ1 (fun c H1 => if c = true then Q (.bl true) H1 else tb σ H1 Q) r0 e1 fun F1 H1 r1 s1 => ?_
  cases c with
  | false => exact h2 F1 σ H1 ρ1 w ρ' Q r1 (by simpa using e) fun v F2 H2 r2 s2 o => k v F2 H2 r2 (s1.trans s2) (o.base s1.dom)
  | true =>
    have e' : some (Opd.val (.bl true), ρ1) = some (w, ρ') := by simpa using e
    cases e'
    exact k _ F1 H1 r1 s1 (.bl true)
theorem dx_notV {ta : TE} {f : Ev} (h1 : DX K ta f) : DX K (tNotV ta) (sNotV f) := by
  intro F σ H ρ w ρ' Q r0 e k
  obtain ⟨⟨c, ρ1⟩, e1, e⟩ := Option.map_eq_some_iff.mp e
  cases e
  exact dt_B h1 F σ H ρ c ρ1 (fun c H1 => Q (.bl (!c)) H1) r0 e1 fun F1 H1 r1 s1 => k _ F1 H1 r1 s1 (.bl _)
end
end Bl
namespace Bl
open PySem PySem.Spec PyProof.Rows L2 Evl

inductive Out where
  | nx (ρ : En) | rt (w : Opd) (ρ : En) | bk (ρ : En) | ct (ρ : En)
abbrev Sv := En → Option Out
def RT (K : PySem.W.Frag) (F' H' : Hp) (σ' : L2.St) (ρ' : En) (σ : L2.St) (ρ : En) (H : Hp) (v : V) : Opd → Prop
  | .val d => Rep K F' v d
  | .own d => ∃ a, v = .ref a ∧ (Owned σ ρ a ∨ H a = none) ∧ Own K F' H' a d ∧ ¬ Owned σ' ρ' a
  | .pl _ => False
def Kp (as : List Nat) (σ σ' : L2.St) : Prop := ∀ j, j ∉ as → σ'[j]? = σ[j]?
theorem Kp.refl (as : List Nat) (σ : L2.St) : Kp as σ σ := fun _ _ => rfl
theorem Kp.trans {as : List Nat} {σ σ1 σ2 : L2.St} (a : Kp as σ σ1) (b : Kp as σ1 σ2) : Kp as σ σ2 := fun j h => (b j h).trans (a j h)
theorem Kp.set {as : List Nat} {σ : L2.St} {i : Nat} {v : Option V} (h : i ∈ as) : Kp as σ (σ.set i v) := fun j hj => List.getElem?_set_ne fun e => hj (by rw [← e]; exact h)
def Fin (K : PySem.W.Frag) (as : List Nat) (σ : L2.St) (ρ : En) (F H : Hp) (D : Ends) : Out → Prop
  | .nx ρ' => ∀ σ' F' H', R K F' σ' H' ρ' → Step σ ρ F H σ' ρ' F' H' → Kp as σ σ' → D.nx σ' H'
  | .bk ρ' => ∀ σ' F' H', R K F' σ' H' ρ' → Step σ ρ F H σ' ρ' F' H' → Kp as σ σ' → D.bk σ' H'
  | .ct ρ' => ∀ σ' F' H', R K F' σ' H' ρ' → Step σ ρ F H σ' ρ' F' H' → Kp as σ σ' → D.ct σ' H'
  | .rt w ρ' => ∀ v σ' F' H', R K F' σ' H' ρ' → Step σ ρ F H σ' ρ' F' H' → Kp as σ σ' → RT K F' H' σ' ρ' σ ρ H v w → D.rt v H'
def DS (K : PySem.W.Frag) (as : List Nat) (ts : TS) (f : Sv) : Prop := ∀ (F : Hp) (σ : L2.St) (H : Hp) (ρ : En) (out : Out) (D : Ends), R K F σ H ρ → f ρ = some out → Fin K as σ ρ F H D out → ts D σ H
section
variable {K : PySem.W.Frag} {as : List Nat}
theorem Step.back {σ σ1 : L2.St} {ρ ρ1 : En} {F F1 H H1 : Hp} (s : Step σ ρ F H σ1 ρ1 F1 H1) {a : Addr} (h : Owned σ1 ρ1 a ∨ H1 a = none) : Owned σ ρ a ∨ H a = none :=
  h.elim (fun z => s.sub a z) fun z => .inr (s.dom a z)
theorem RT.back {F' H' H H1 : Hp} {σ' σ σ1 : L2.St} {ρ' ρ ρ1 : En} {v : V} {w : Opd} {F F1 : Hp} (s : Step σ ρ F H σ1 ρ1 F1 H1) (h : RT K F' H' σ' ρ' σ1 ρ1 H1 v w) : RT K F' H' σ' ρ' σ ρ H v w := by
  cases w with
  | val d => exact h
  | own d => obtain ⟨a, e, q, o, n⟩ := h; exact ⟨a, e, s.back q, o, n⟩
  | pl i => exact h
theorem Fin.back {σ σ1 : L2.St} {ρ ρ1 : En} {F F1 H H1 : Hp} {D : Ends} {out : Out} (s : Step σ ρ F H σ1 ρ1 F1 H1) (kp : Kp as σ σ1) (h : Fin K as σ ρ F H D out) : Fin K as σ1 ρ1 F1 H1 D out := by
  cases out with
  | nx ρ' => exact fun σ' F' H' r s' k' => h σ' F' H' r (s.trans s') (kp.trans k')
  | bk ρ' => exact fun σ' F' H' r s' k' => h σ' F' H' r (s.trans s') (kp.trans k')
  | ct ρ' => exact fun σ' F' H' r s' k' => h σ' F' H' r (s.trans s') (kp.trans k')
  | rt w ρ' => exact fun v σ' F' H' r s' k' o => h v σ' F' H' r (s.trans s') (kp.trans k') (o.back s)
def sSeq (f g : Sv) : Sv := fun ρ => (f ρ).bind fun o => match o with
  | .nx ρ' => g ρ'
  | o => some o
def sNext : Sv := fun ρ => some (.nx ρ)
def sExpr (f : Ev) : Sv := fun ρ => (f ρ).map fun p => .nx p.2
def sRet (f : Ev) : Sv := fun ρ => (f ρ).bind fun p => match p.1 with
  | .pl i => (match p.2[i]? with
    | some (some (.v d)) => some (.rt (.val d) p.2)
    | some (some (.o d)) => some (.rt (.own d) (p.2.set i none))
    | _ => none)
  | w => some (.rt w p.2)
def sRetN : Sv := fun ρ => some (.rt (.val .non) ρ)
def sIfS (c : Tv) (f g : Sv) : Sv := fun ρ => (c ρ).bind fun p => if p.1 = true then f p.2 else g p.2
def sNever : Sv := fun _ => none
def sBreak : Sv := fun ρ => some (.bk ρ)
def sCont : Sv := fun ρ => some (.ct ρ)
theorem ds_seq {t u : TS} {f g : Sv} (h1 : DS K as t f) (h2 : DS K as u g) : DS K as (tSeq t u) (sSeq f g) := by
  intro F σ H ρ out D r e k
  obtain ⟨o, e1, e⟩ := Option.bind_eq_some_iff.mp e
  cases o with
  | nx ρ1 => exact h1 F σ H ρ _ { D with nx := u D } r e1 fun σ' F' H' r1 s1 k1 => h2 F' σ' H' ρ1 out D r1 e (k.back s1 k1)
  | bk ρ1 => cases e; exact h1 F σ H ρ _ { D with nx := u D } r e1 k
  | ct ρ1 => cases e; exact h1 F σ H ρ _ { D with nx := u D } r e1 k
  | rt w ρ1 => cases e; exact h1 F σ H ρ _ { D with nx := u D } r e1 k
theorem ds_next : DS K as tNext sNext := by
  intro F σ H ρ out D r e k
  cases e
  exact k σ F H r (Step.refl _ _ _ _) (Kp.refl _ _)
theorem ds_break : DS K as tBreak sBreak := by
  intro F σ H ρ out D r e k
  cases e
  exact k σ F H r (Step.refl _ _ _ _) (Kp.refl _ _)
theorem ds_cont : DS K as tCont sCont := by
  intro F σ H ρ out D r e k
  cases e
  exact k σ F H r (Step.refl _ _ _ _) (Kp.refl _ _)
theorem ds_never : DS K as tNever sNever := by
  intro F σ H ρ out D r e k
  cases e
theorem ds_expr {te : TE} {f : Ev} (h : DX K te f) : DS K as (tDrop te) (sExpr f) := by
  intro F σ H ρ out D r e k
  obtain ⟨⟨w, ρ1⟩, e1, e⟩ := Option.map_eq_some_iff.mp e
  cases e
  exact h F σ H ρ w ρ1 _ r e1 fun v F' H' r1 s1 _ => k σ F' H' r1 s1 (Kp.refl _ _)
theorem ds_retN : DS K as tRetN sRetN := by
  intro F σ H ρ out D r e k
  cases e
  exact k _ σ F H r (Step.refl _ _ _ _) (Kp.refl _ _) .non
theorem ds_if {c : TT} {t u : TS} {b : Tv} {f g : Sv} (h : DT K c b) (h1 : DS K as t f) (h2 : DS K as u g) : DS K as (tIfS c t u) (sIfS b f g) := by
  intro F σ H ρ out D r e k
  obtain ⟨⟨b, ρ1⟩, e1, e⟩ := Option.bind_eq_some_iff.mp e
  refine h F σ H ρ b ρ1 _ r e1 fun F1 H1 r1 s1 => ?_
  cases b with
  | true => exact h1 F1 σ H1 ρ1 out D r1 (by simpa using e) (k.back s1 (Kp.refl _ _))
  | false => exact h2 F1 σ H1 ρ1 out D r1 (by simpa using e) (k.back s1 (Kp.refl _ _))
/-- a slot is forgotten -/
theorem R.drop {F H : Hp} {σ : L2.St} {ρ : En} (r : R K F σ H ρ) (i : Nat) : R K F σ H (ρ.set i none) := by
  refine ⟨r.ex, r.dom, by simpa using r.len, fun j y z => ?_, fun j y z => ?_, fun j k y y' b z z' => ?_⟩
  · rcases getElem?_set_some z with ⟨_, w⟩ | ⟨_, w⟩
    · cases w
    · exact r.val j y w
  · rcases getElem?_set_some z with ⟨_, w⟩ | ⟨_, w⟩
    · cases w
    · exact r.own j y w
  · rcases getElem?_set_some z with ⟨_, w⟩ | ⟨_, w⟩
    · cases w
    · rcases getElem?_set_some z' with ⟨_, w'⟩ | ⟨_, w'⟩
      · cases w'
      · exact r.sep j k y y' b w w'
theorem Owned.drop {σ : L2.St} {ρ : En} {i : Nat} {a : Addr} (h : Owned σ (ρ.set i none) a) : Owned σ ρ a := by
  obtain ⟨j, d, h1, h2⟩ := h
  rcases getElem?_set_some h1 with ⟨_, w⟩ | ⟨_, w⟩
  · cases w
  · exact ⟨j, d, w, h2⟩
theorem ds_ret {te : TE} {f : Ev} (h : DX K te f) : DS K as (tRet te) (sRet f) := by
  intro F σ H ρ out D r e k
  obtain ⟨⟨w, ρ1⟩, e1, e⟩ := Option.bind_eq_some_iff.mp e
  refine h F σ H ρ w ρ1 _ r e1 fun v F' H' r1 s1 o1 => ?_
  cases w with
  | val d => cases e; exact k v σ F' H' r1 s1 (Kp.refl _ _) o1
  | own d =>
    cases e
    obtain ⟨a, ev, h0, o, n⟩ := o1
    exact k v σ F' H' r1 s1 (Kp.refl _ _) ⟨a, ev, .inr h0, o, n⟩
  | pl i =>
    dsimp only at e
    split at e
    · rename_i d q
      cases e
      obtain ⟨u, h1, h2⟩ := r1.val i d q
      have e3 : some (some v) = some (some u) := o1.symm.trans h1
      cases e3
      exact k v σ F' H' r1 s1 (Kp.refl _ _) h2
    · rename_i d q
      cases e
      obtain ⟨a, h1, h2⟩ := r1.own i d q
      have e3 : some (some v) = some (some (.ref a)) := o1.symm.trans h1
      cases e3
      refine k _ σ F' H' (r1.drop i) ⟨s1.le, s1.keep, s1.dom, s1.frz, fun b z => s1.sub b z.drop⟩ (Kp.refl _ _) ⟨a, rfl, s1.sub a ⟨i, d, q, h1⟩, h2, ?_⟩
      rintro ⟨j, y, z1, z2⟩
      rcases getElem?_set_some z1 with ⟨_, w⟩ | ⟨hj, w⟩
      · cases w
      · exact hj (r1.sep j i y d a w q z2 h1)
    · cases e
/-! ### stores -/
def stO (i : Nat) (ρ : En) : Opd → Option En
  | .val d => some (ρ.set i (some (.v d)))
  | .own d => some (ρ.set i (some (.o d)))
  | .pl j => (relP ρ j).map fun q => q.2.set i (some (.v q.1))
theorem set_get {α : Type} {l : List α} {i : Nat} {x : α} (h : i < l.length) : (l.set i x)[i]? = some x := List.getElem?_set_self h
/-- a value is stored -/
theorem R.setV {F H : Hp} {σ : L2.St} {ρ : En} {v : V} {d : D} (r : R K F σ H ρ) (i : Nat) (h : Rep K F v d) : R K F (σ.set i (some v)) H (ρ.set i (some (.v d))) ∧ Step σ ρ F H (σ.set i (some v)) (ρ.set i (some (.v d))) F H := by
  have slot : ∀ {j : Nat} {u : V}, j ≠ i → σ[j]? = some (some u) → (σ.set i (some v))[j]? = some (some u) := fun {j u} hj e => by rw [List.getElem?_set_ne (Ne.symm hj)]; exact e
  have slot' : ∀ {j : Nat} {u : V}, j ≠ i → (σ.set i (some v))[j]? = some (some u) → σ[j]? = some (some u) := fun {j u} hj e => by rw [List.getElem?_set_ne (Ne.symm hj)] at e; exact e
  refine ⟨⟨r.ex, r.dom, by simpa using r.len, fun j y z => ?_, fun j y z => ?_, fun j k y y' b z z' e e' => ?_⟩, ⟨Le.refl _, fun _ _ z _ => z, fun _ z => z, fun _ _ _ => rfl, ?_⟩⟩
  · rcases getElem?_set_some z with ⟨hj, w⟩ | ⟨hj, w⟩
    · cases w
      subst hj
      have : j < σ.length := by rw [← r.len]; have := (List.getElem?_eq_some_iff.mp z).1; simpa using this
      exact ⟨v, set_get this, h⟩
    · obtain ⟨u, h1, h2⟩ := r.val j y w
      exact ⟨u, slot hj h1, h2⟩
  · rcases getElem?_set_some z with ⟨hj, w⟩ | ⟨hj, w⟩
    · cases w
    · obtain ⟨u, h1, h2⟩ := r.own j y w
      exact ⟨u, slot hj h1, h2⟩
  · rcases getElem?_set_some z with ⟨hj, w⟩ | ⟨hj, w⟩
    · cases w
    · rcases getElem?_set_some z' with ⟨hj', w'⟩ | ⟨hj', w'⟩
      · cases w'
      · exact r.sep j k y y' b w w' (slot' hj e) (slot' hj' e')
  · rintro b ⟨j, y, z1, z2⟩
    rcases getElem?_set_some z1 with ⟨hj, w⟩ | ⟨hj, w⟩
    · cases w
    · exact .inl ⟨j, y, w, slot' hj z2⟩
theorem R.setO {F H : Hp} {σ : L2.St} {ρ : En} {a : Addr} {d : D} (r : R K F σ H ρ) (i : Nat) (h : Own K F H a d) (n : ¬ Owned σ ρ a) : R K F (σ.set i (some (.ref a))) H (ρ.set i (some (.o d))) ∧
    (∀ b, Owned (σ.set i (some (.ref a))) (ρ.set i (some (.o d))) b → Owned σ ρ b ∨ b = a) := by
  have slot : ∀ {j : Nat} {u : V}, j ≠ i → σ[j]? = some (some u) → (σ.set i (some (.ref a)))[j]? = some (some u) := fun {j u} hj e => by rw [List.getElem?_set_ne (Ne.symm hj)]; exact e
  have slot' : ∀ {j : Nat} {u : V}, j ≠ i → (σ.set i (some (.ref a)))[j]? = some (some u) → σ[j]? = some (some u) := fun {j u} hj e => by rw [List.getElem?_set_ne (Ne.symm hj)] at e; exact e
  have here : ∀ {u : V}, (σ.set i (some (.ref a)))[i]? = some (some u) → u = .ref a := fun {u} e => by
    rcases getElem?_set_some e with ⟨_, w⟩ | ⟨w, _⟩
    · cases w; rfl
    · exact absurd rfl w
  refine ⟨⟨r.ex, r.dom, by simpa using r.len, fun j y z => ?_, fun j y z => ?_, fun j k y y' b z z' e e' => ?_⟩, ?_⟩
  · rcases getElem?_set_some z with ⟨hj, w⟩ | ⟨hj, w⟩
    · cases w
    · obtain ⟨u, h1, h2⟩ := r.val j y w
      exact ⟨u, slot hj h1, h2⟩
  · rcases getElem?_set_some z with ⟨hj, w⟩ | ⟨hj, w⟩
    · cases w
      subst hj
      have : j < σ.length := by rw [← r.len]; have := (List.getElem?_eq_some_iff.mp z).1; simpa using this
      exact ⟨a, set_get this, h⟩
    · obtain ⟨u, h1, h2⟩ := r.own j y w
      exact ⟨u, slot hj h1, h2⟩
  · rcases getElem?_set_some z with ⟨hj, w⟩ | ⟨hj, w⟩
    · subst hj
      rcases getElem?_set_some z' with ⟨hj', w'⟩ | ⟨hj', w'⟩
      · exact hj'.symm
      · have q := here e
        injection q with q; subst q
        exact absurd ⟨k, y', w', slot' hj' e'⟩ n
    · rcases getElem?_set_some z' with ⟨hj', w'⟩ | ⟨hj', w'⟩
      · subst hj'
        have q := here e'
        injection q with q; subst q
        exact absurd ⟨j, y, w, slot' hj e⟩ n
      · exact r.sep j k y y' b w w' (slot' hj e) (slot' hj' e')
  · rintro b ⟨j, y, z1, z2⟩
    rcases getElem?_set_some z1 with ⟨hj, w⟩ | ⟨hj, w⟩
    · subst hj
      have q := here z2
      injection q with q; exact .inr q
    · exact .inl ⟨j, y, w, slot' hj z2⟩
theorem R.store {F0 F H0 H : Hp} {σ : L2.St} {ρ0 ρ ρ' : En} {v : V} {w : Opd} {i : Nat} (r : R K F σ H ρ) (s : Step σ ρ0 F0 H0 σ ρ F H) (o : RO K F H σ ρ H0 v w) (e : stO i ρ w = some ρ') :
    ∃ F', R K F' (σ.set i (some v)) H ρ' ∧ Step σ ρ0 F0 H0 (σ.set i (some v)) ρ' F' H := by
  cases w with
  | val d => cases e; have z := r.setV i o; exact ⟨F, z.1, s.trans z.2⟩
  | own d =>
    cases e
    obtain ⟨a, rfl, h0, ow, n⟩ := o
    have z := r.setO i ow n
    refine ⟨F, z.1, s.le, s.keep, s.dom, s.frz, fun b hb => ?_⟩
    rcases z.2 b hb with q | q
    · exact s.sub b q
    · subst q; exact .inr h0
  | pl j =>
    obtain ⟨⟨d, ρ1⟩, e1, e⟩ := Option.map_eq_some_iff.mp e
    cases e
    obtain ⟨F1, r1, s1, rep⟩ := r.relP o e1
    have z := r1.setV i rep
    exact ⟨F1, z.1, (s.trans s1).trans z.2⟩
def sSet (i : Nat) (f : Ev) : Sv := fun ρ => (f ρ).bind fun p => (stO i p.2 p.1).map .nx
theorem ds_set {te : TE} {f : Ev} (i : Nat) (hi : i ∈ as) (h : DX K te f) : DS K as (tAsg te (gName i)) (sSet i f) := by
  intro F σ H ρ out D r e k
  obtain ⟨⟨w, ρ1⟩, e1, e⟩ := Option.bind_eq_some_iff.mp e
  obtain ⟨ρ2, e2, e⟩ := Option.map_eq_some_iff.mp e
  cases e
  refine h F σ H ρ w ρ1 _ r e1 fun v F' H' r1 s1 o1 => ?_
  obtain ⟨F2, r2, s2⟩ := r1.store s1 o1 e2
  exact k _ F2 H' r2 s2 (Kp.set hi)
/-! ### targets -/
abbrev Gs := D → En → Option En
abbrev Gss := List D → En → Option En
def DG (K : PySem.W.Frag) (g : TG) (f : Gs) (is : List Nat) : Prop := ∀ (F : Hp) (σ : L2.St) (H : Hp) (ρ : En) (v : V) (d : D) (ρ' : En) (Q : L2.St → Hp → Prop), R K F σ H ρ → Rep K F v d → f d ρ = some ρ' →
  (∀ σ' F' H', R K F' σ' H' ρ' → Step σ ρ F H σ' ρ' F' H' → (∀ j, j ∉ is → σ'[j]? = σ[j]?) → σ'.length = σ.length → Q σ' H') → g v σ H Q
def DGs (K : PySem.W.Frag) (g : TGs) (f : Gss) (is : List Nat) : Prop := ∀ (F : Hp) (σ : L2.St) (H : Hp) (ρ : En) (v : List V) (d : List D) (ρ' : En) (Q : L2.St → Hp → Prop), R K F σ H ρ → Reps K F v d → f d ρ = some ρ' →
  (∀ σ' F' H', R K F' σ' H' ρ' → Step σ ρ F H σ' ρ' F' H' → (∀ j, j ∉ is → σ'[j]? = σ[j]?) → σ'.length = σ.length → Q σ' H') → g v σ H Q
def hName (i : Nat) : Gs := fun d ρ => some (ρ.set i (some (.v d)))
def hNil : Gss := fun ds ρ => match ds with
  | [] => some ρ
  | _ => none
def hCons (f : Gs) (g : Gss) : Gss := fun ds ρ => match ds with
  | d :: r => (f d ρ).bind (g r)
  | _ => none
def hTup (n : Nat) (g : Gss) : Gs := fun d ρ => match d with
  | .tup ds => if ds.length = n then g ds ρ else none
  | _ => none
theorem dg_name (i : Nat) : DG K (gName i) (hName i) [i] := by
  intro F σ H ρ v d ρ' Q r h e k
  cases e
  have z := r.setV i h
  exact k _ F H z.1 z.2 (fun j hj => List.getElem?_set_ne (fun q => hj (by simp [q]))) (by simp)
theorem dgs_nil : DGs K gNil hNil [] := by
  intro F σ H ρ v d ρ' Q r h e k
  cases h with
  | nil => cases e; exact ⟨rfl, k _ F H r (Step.refl _ _ _ _) (fun _ _ => rfl) rfl⟩
  | cons _ _ => cases e
theorem dgs_cons {g : TG} {gs : TGs} {f : Gs} {fs : Gss} {is js : List Nat} (h1 : DG K g f is) (h2 : DGs K gs fs js) : DGs K (gCons g gs) (hCons f fs) (is ++ js) := by
  intro F σ H ρ v d ρ' Q r h e k
  cases h with
  | nil => cases e
  | cons hd tl =>
    obtain ⟨ρ1, e1, e⟩ := Option.bind_eq_some_iff.mp e
    refine ⟨_, _, rfl, h1 F σ H ρ _ _ ρ1 _ r hd e1 fun σ' F' H' r1 s1 o1 l1 => ?_⟩
    exact h2 F' σ' H' ρ1 _ _ ρ' Q r1 (tl.mono s1.le) e fun σ2 F2 H2 r2 s2 o2 l2 => k σ2 F2 H2 r2 (s1.trans s2) (fun j hj => by
      rw [List.mem_append, not_or] at hj
      exact (o2 j hj.2).trans (o1 j hj.1)) (l2.trans l1)
theorem dg_tup {n : Nat} {gs : TGs} {fs : Gss} {is : List Nat} (h2 : DGs K gs fs is) : DG K (gTup K n gs) (hTup n fs) is := by
  intro F σ H ρ v d ρ' Q r h e k
  unfold hTup at e
  cases h with
  | tup a _ b =>
    dsimp only at e
    split at e
    · rename_i hn
      exact ⟨_, _, rfl, r.ex.le.sqT a, b.length.trans hn, h2 F σ H ρ _ _ ρ' Q r b e k⟩
    · cases e
  | _ => cases e
def sAsg (f : Ev) (g : Gs) : Sv := fun ρ => (f ρ).bind fun p => (rel p.2 p.1).bind fun q => (g q.1 q.2).map .nx
theorem ds_asg {te : TE} {f : Ev} {g : TG} {gs : Gs} {is : List Nat} (his : ∀ j ∈ is, j ∈ as) (h : DX K te f) (hg : DG K g gs is) : DS K as (tAsg te g) (sAsg f gs) := by
  intro F σ H ρ out D r e k
  obtain ⟨⟨w, ρ1⟩, e1, e⟩ := Option.bind_eq_some_iff.mp e
  obtain ⟨⟨d, ρ2⟩, e2, e⟩ := Option.bind_eq_some_iff.mp e
  obtain ⟨ρ3, e3, e⟩ := Option.map_eq_some_iff.mp e
  cases e
  refine h F σ H ρ w ρ1 _ r e1 fun v F' H' r1 s1 o1 => ?_
  obtain ⟨F2, r2, s2, rep⟩ := r1.rel s1 o1 e2
  exact hg F2 σ H' ρ2 v d ρ3 _ r2 rep e3 fun σ' F' H' r3 s3 o3 _ => k σ' F' H' r3 (s2.trans s3) fun j hj => o3 j fun z => hj (his j z)
/-- a, b = x, y of two locals -/
def fixO (ρ : En) : Opd → Option (Opd × En)
  | .pl j => (relP ρ j).map fun q => (.val q.1, q.2)
  | w => some (w, ρ)
def sPar (i j : Nat) (f g : Ev) : Sv := fun ρ => (f ρ).bind fun p => (fixO p.2 p.1).bind fun p' => (g p'.2).bind fun q => (fixO q.2 q.1).bind fun q' => (stO i q'.2 p'.1).bind fun ρ1 => (stO j ρ1 q'.1).map .nx
theorem R.fix {F0 F H0 H : Hp} {σ : L2.St} {ρ0 ρ ρ' : En} {v : V} {w w' : Opd} (r : R K F σ H ρ) (s : Step σ ρ0 F0 H0 σ ρ F H) (o : RO K F H σ ρ H0 v w) (e : fixO ρ w = some (w', ρ')) :
    ∃ F', R K F' σ H ρ' ∧ Step σ ρ0 F0 H0 σ ρ' F' H ∧ RO K F' H σ ρ' H0 v w' ∧ (∀ i, w' ≠ .pl i) := by
  cases w with
  | val d => cases e; exact ⟨F, r, s, o, fun _ z => by cases z⟩
  | own d => cases e; exact ⟨F, r, s, o, fun _ z => by cases z⟩
  | pl j =>
    obtain ⟨⟨d, ρ1⟩, e1, e⟩ := Option.map_eq_some_iff.mp e
    cases e
    obtain ⟨F1, r1, s1, rep⟩ := r.relP o e1
    exact ⟨F1, r1, s.trans s1, rep, fun _ z => by cases z⟩
theorem ds_par {ta tb : TE} {f g : Ev} {i j : Nat} (hi : i ∈ as) (hj : j ∈ as) (h1 : DX K ta f) (h2 : DX K tb g) : DS K as (tPar i j (tCons ta (tCons tb tNil))) (sPar i j f g) := by
  intro F σ H ρ out D r e k
  obtain ⟨⟨w1, ρ1⟩, e1, e⟩ := Option.bind_eq_some_iff.mp e
  obtain ⟨⟨w1', ρ1'⟩, e2, e⟩ := Option.bind_eq_some_iff.mp e
  obtain ⟨⟨w2, ρ2⟩, e3, e⟩ := Option.bind_eq_some_iff.mp e
  obtain ⟨⟨w2', ρ2'⟩, e4, e⟩ := Option.bind_eq_some_iff.mp e
  obtain ⟨ρ3, e5, e⟩ := Option.bind_eq_some_iff.mp e
  obtain ⟨ρ4, e6, e⟩ := Option.map_eq_some_iff.mp e
  cases e
  refine h1 F σ H ρ w1 ρ1 _ r e1 fun x F1 H1 r1 s1 o1 => ?_
  obtain ⟨F1', r1', s1', o1', n1⟩ := r1.fix s1 o1 e2
  refine h2 F1' σ H1 ρ1' w2 ρ2 _ r1' e3 fun y F2 H2 r2 s2 o2 => ⟨x, y, rfl, ?_⟩
  have q1 := o1'.move s2
  obtain ⟨F2', r2', s2', o2', n2⟩ := r2.fix s2 o2 e4
  have q1' := o1'.move s2'
  -- the first store
  have sA : Step σ ρ F H σ ρ2' F2' H2 := s1'.trans s2'
  have hx : ∀ a, y = .ref a → H1 a = none → x ≠ .ref a ∨ ∀ d, w1' ≠ .own d := fun a _ ha => by
    cases w1' with
    | own d =>
      left
      intro z
      obtain ⟨b, eb, _, ob, _⟩ := o1'
      rw [eb] at z
      injection z with z
      subst z
      exact ob.there ha
    | _ => right; intro d z; cases z
  cases w1' with
  | pl i => exact absurd rfl (n1 i)
  | val d1 =>
    cases e5
    have z := r2'.setV i q1'
    cases w2' with
    | pl i => exact absurd rfl (n2 i)
    | val d2 =>
      cases e6
      have z2 := z.1.setV j o2'
      exact k _ _ _ z2.1 ((sA.trans z.2).trans z2.2) ((Kp.set hi).trans (Kp.set hj))
    | own d2 =>
      cases e6
      obtain ⟨b, rfl, hb, ob, nb⟩ := o2'
      have nb' : ¬ Owned (σ.set i (some x)) (ρ2'.set i (some (.v d1))) b := fun h => (z.2.sub b h).elim nb ob.there
      have z2 := z.1.setO j ob nb'
      refine k _ _ _ z2.1 ?_ ((Kp.set hi).trans (Kp.set hj))
      have sB := sA.trans z.2
      refine ⟨sB.le, sB.keep, sB.dom, sB.frz, fun c hc => ?_⟩
      rcases z2.2 c hc with q | q
      · exact sB.sub c q
      · subst q; exact .inr (s1'.dom _ hb)
  | own d1 =>
    cases e5
    obtain ⟨a, rfl, ha, oa, na⟩ := q1'
    have z := r2'.setO i oa na
    have sB : Step σ ρ F H (σ.set i (some (.ref a))) (ρ2'.set i (some (.o d1))) F2' H2 := by
      refine ⟨sA.le, sA.keep, sA.dom, sA.frz, fun c hc => ?_⟩
      rcases z.2 c hc with q | q
      · exact sA.sub c q
      · subst q; exact .inr ha
    cases w2' with
    | pl i => exact absurd rfl (n2 i)
    | val d2 =>
      cases e6
      have z2 := z.1.setV j o2'
      exact k _ _ _ z2.1 (sB.trans z2.2) ((Kp.set hi).trans (Kp.set hj))
    | own d2 =>
      cases e6
      obtain ⟨b, rfl, hb, ob, nb⟩ := o2'
      have hab : b ≠ a := fun q => by
        subst q
        rcases hx _ rfl hb with h | h
        · exact h rfl
        · exact h _ rfl
      have nb' : ¬ Owned (σ.set i (some (.ref a))) (ρ2'.set i (some (.o d1))) b := fun h => (z.2 b h).elim nb hab
      have z2 := z.1.setO j ob nb'
      refine k _ _ _ z2.1 ⟨sB.le, sB.keep, sB.dom, sB.frz, fun c hc => ?_⟩ ((Kp.set hi).trans (Kp.set hj))
      rcases z2.2 c hc with q | q
      · exact sB.sub c q
      · subst q; exact .inr (s1'.dom _ hb)
/-! ### own things changed -/
theorem R.mutL {F H : Hp} {σ : L2.St} {ρ : En} {i : Nat} {ds ds' : List D} {vs' : List V} {a : Addr} (r : R K F σ H ρ) (h : ρ[i]? = some (some (.o (.lst ds)))) (ha : σ[i]? = some (some (.ref a))) (hr : Reps K F vs' ds') :
    R K F σ (upd H a (.lst vs')) (ρ.set i (some (.o (.lst ds')))) ∧ Step σ ρ F H σ (ρ.set i (some (.o (.lst ds')))) F (upd H a (.lst vs')) := by
  obtain ⟨b, hb, ow⟩ := r.own i _ h
  have e : some (some (V.ref a)) = some (some (V.ref b)) := ha.symm.trans hb
  cases e
  have fa := ow.free
  have hs : ∀ c, Owned σ (ρ.set i (some (.o (.lst ds')))) c → Owned σ ρ c := by
    rintro c ⟨j, y, z1, z2⟩
    rcases getElem?_set_some z1 with ⟨hj, w⟩ | ⟨hj, w⟩
    · subst hj; exact ⟨j, _, h, z2⟩
    · exact ⟨j, y, w, z2⟩
  have isO : Owned σ ρ a := ⟨i, _, h, ha⟩
  refine ⟨⟨fun b u z => ?_, fun b z => ?_, by simpa using r.len, fun j y z => ?_, fun j y z => ?_, fun j k y y' b z z' e e' => ?_⟩, ⟨Le.refl _, fun b u z n => ?_, fun b z => ?_, fun _ _ _ => rfl, fun c hc => .inl (hs c hc)⟩⟩
  · rw [upd_ne (fun q => by subst q; rw [fa] at z; cases z)]; exact r.ex b u z
  · by_cases q : b = a
    · subst q; rw [upd_same] at z; cases z
    · rw [upd_ne q] at z; exact r.dom b z
  · rcases getElem?_set_some z with ⟨hj, w⟩ | ⟨hj, w⟩
    · cases w
    · exact r.val j y w
  · rcases getElem?_set_some z with ⟨hj, w⟩ | ⟨hj, w⟩
    · cases w; subst hj; exact ⟨a, ha, fa, vs', upd_same, hr⟩
    · obtain ⟨b, h1, h2⟩ := r.own j y w
      refine ⟨b, h1, h2.move (Le.refl _) rfl (upd_ne fun q => ?_)⟩
      subst q; exact hj (r.sep j i y _ b w h h1 ha)
  · have old : ∀ {j : Nat} {y : D}, (ρ.set i (some (.o (.lst ds'))))[j]? = some (some (.o y)) → ∃ y', ρ[j]? = some (some (.o y')) := fun {j y} z => by
      rcases getElem?_set_some z with ⟨hj, w⟩ | ⟨hj, w⟩
      · subst hj; exact ⟨_, h⟩
      · exact ⟨_, w⟩
    obtain ⟨_, q⟩ := old z
    obtain ⟨_, q'⟩ := old z'
    exact r.sep j k _ _ b q q' e e'
  · rw [upd_ne (fun q => by subst q; exact n isO)]; exact z
  · by_cases q : b = a
    · subst q; rw [upd_same] at z; cases z
    · rw [upd_ne q] at z; exact z
end
end Bl
namespace Bl
open PySem PySem.Spec PyProof.Rows L2 Evl

def mask : List Nat → En → En
  | [], ρ => ρ
  | v :: vs, ρ => (mask vs ρ).set v none
def unmask : List Nat → En → En → En
  | [], _, ρ => ρ
  | v :: vs, ρ0, ρ => (unmask vs ρ0 ρ).set v (ρ0.getD v none)
theorem mask_length : ∀ (vs : List Nat) (ρ : En), (mask vs ρ).length = ρ.length
  | [], _ => rfl
  | v :: vs, ρ => by unfold mask; rw [List.length_set, mask_length vs ρ]
theorem unmask_length : ∀ (vs : List Nat) (ρ0 ρ : En), (unmask vs ρ0 ρ).length = ρ.length
  | [], _, _ => rfl
  | v :: vs, ρ0, ρ => by unfold unmask; rw [List.length_set, unmask_length vs ρ0 ρ]
theorem mask_get {e : Ent} {i : Nat} : ∀ {vs : List Nat} {ρ : En}, (mask vs ρ)[i]? = some (some e) → i ∉ vs ∧ ρ[i]? = some (some e)
  | [], _, h => ⟨by simp, h⟩
  | v :: vs, ρ, h => by
    unfold mask at h
    rcases getElem?_set_some h with ⟨_, w⟩ | ⟨hj, w⟩
    · cases w
    · obtain ⟨h1, h2⟩ := mask_get w
      exact ⟨by simp only [List.mem_cons, not_or]; exact ⟨hj, h1⟩, h2⟩
theorem unmask_get {e : Ent} {i : Nat} : ∀ {vs : List Nat} {ρ0 ρ : En}, (unmask vs ρ0 ρ)[i]? = some (some e) → (i ∈ vs ∧ ρ0[i]? = some (some e)) ∨ (i ∉ vs ∧ ρ[i]? = some (some e))
  | [], _, _, h => .inr ⟨by simp, h⟩
  | v :: vs, ρ0, ρ, h => by
    unfold unmask at h
    rcases getElem?_set_some h with ⟨hj, w⟩ | ⟨hj, w⟩
    · subst hj
      refine .inl ⟨by simp, ?_⟩
      rw [List.getD_eq_getElem?_getD] at w
      cases q : ρ0[i]? with
      | none => rw [q] at w; cases w
      | some z => rw [q] at w; rw [w]; rfl
    · rcases unmask_get w with ⟨h1, h2⟩ | ⟨h1, h2⟩
      · exact .inl ⟨List.mem_cons_of_mem _ h1, h2⟩
      · exact .inr ⟨by simp only [List.mem_cons, not_or]; exact ⟨hj, h1⟩, h2⟩
theorem wipe_get {σ : L2.St} {j : Nat} : ∀ {vs : List Nat}, j ∉ vs → (wipe σ vs)[j]? = σ[j]?
  | [], _ => rfl
  | v :: vs, h => by
    simp only [List.mem_cons, not_or] at h
    unfold wipe
    rw [List.getElem?_set_ne (Ne.symm h.1)]
    exact wipe_get h.2
theorem wipe_in {σ : L2.St} {j : Nat} (hj : j < σ.length) : ∀ {vs : List Nat}, j ∈ vs → (wipe σ vs)[j]? = some none
  | v :: vs, h => by
    unfold wipe
    by_cases e : v = j
    · subst e
      exact List.getElem?_set_self (by rw [wipe_length]; exact hj)
    · rw [List.getElem?_set_ne e]
      rcases List.mem_cons.mp h with z | z
      · exact absurd z.symm e
      · exact wipe_in hj z
theorem wipe_eq {σ τ : L2.St} {vs : List Nat} (hl : τ.length = σ.length) (h : ∀ j, j ∉ vs → τ[j]? = σ[j]?) : wipe τ vs = wipe σ vs := by
  apply List.ext_getElem?
  intro j
  by_cases hj : j ∈ vs
  · by_cases hk : j < σ.length
    · rw [wipe_in hk hj, wipe_in (by rw [hl]; exact hk) hj]
    · rw [List.getElem?_eq_none (by rw [wipe_length]; omega), List.getElem?_eq_none (by rw [wipe_length]; omega)]
  · rw [wipe_get hj, wipe_get hj]; exact h j hj
section
variable {K : PySem.W.Frag} {as : List Nat}
theorem owned_mask {σ τ : L2.St} {ρ : En} {vs ms : List Nat} {a : Addr} (hm : ∀ j ∈ vs, j ∈ ms) (hs : ∀ j, j ∉ vs → τ[j]? = σ[j]?) (h : Owned τ (mask ms ρ) a) : ∃ i d, i ∉ ms ∧ ρ[i]? = some (some (.o d)) ∧ σ[i]? = some (some (.ref a)) := by
  obtain ⟨i, d, h1, h2⟩ := h
  obtain ⟨h3, h4⟩ := mask_get h1
  rw [hs i fun z => h3 (hm i z)] at h2
  exact ⟨i, d, h3, h4, h2⟩
theorem R.mask {F H : Hp} {σ : L2.St} {ρ : En} {vs ms : List Nat} (r : R K F σ H ρ) (hm : ∀ j ∈ vs, j ∈ ms) : R K F (wipe σ vs) H (Bl.mask ms ρ) := by
  refine ⟨r.ex, r.dom, by rw [mask_length, wipe_length]; exact r.len, fun i d h => ?_, fun i d h => ?_, fun i j d e a h h' e1 e2 => ?_⟩
  · obtain ⟨h1, h2⟩ := mask_get h
    obtain ⟨v, e, rep⟩ := r.val i d h2
    exact ⟨v, by rw [wipe_get fun z => h1 (hm i z)]; exact e, rep⟩
  · obtain ⟨h1, h2⟩ := mask_get h
    obtain ⟨v, e, rep⟩ := r.own i d h2
    exact ⟨v, by rw [wipe_get fun z => h1 (hm i z)]; exact e, rep⟩
  · obtain ⟨h1, h2⟩ := mask_get h
    obtain ⟨h3, h4⟩ := mask_get h'
    rw [wipe_get fun z => h1 (hm i z)] at e1
    rw [wipe_get fun z => h3 (hm j z)] at e2
    exact r.sep i j d e a h2 h4 e1 e2
theorem R.unmask {F F' H H' : Hp} {σ : L2.St} {ρ ρ' : En} {vs ms : List Nat} (r : R K F σ H ρ) (hm : ∀ j ∈ vs, j ∈ ms) (s : Step (wipe σ vs) (Bl.mask ms ρ) F H (wipe σ vs) ρ' F' H') (r' : R K F' (wipe σ vs) H' ρ') :
    R K F' σ H' (Bl.unmask ms ρ ρ') ∧ Step σ ρ F H σ (Bl.unmask ms ρ ρ') F' H' := by
  have hs : ∀ j, j ∉ vs → (wipe σ vs)[j]? = σ[j]? := fun j hj => wipe_get hj
  -- the masked own things stay
  have st : ∀ {i : Nat} {d : D} {a : Addr}, i ∈ ms → ρ[i]? = some (some (.o d)) → σ[i]? = some (some (.ref a)) → ¬ Owned (wipe σ vs) (Bl.mask ms ρ) a := fun {i d a} hi h1 h2 z => by
    obtain ⟨j, e, hj, z1, z2⟩ := owned_mask hm hs z
    exact hj (by rw [r.sep j i e d a z1 h1 z2 h2]; exact hi)
  have there : ∀ {i : Nat} {d : D} {a : Addr}, ρ[i]? = some (some (.o d)) → σ[i]? = some (some (.ref a)) → Own K F H a d := fun {i d a} h1 h2 => by
    obtain ⟨b, e1, e2⟩ := r.own i d h1
    have e : some (some (V.ref a)) = some (some (V.ref b)) := h2.symm.trans e1
    cases e; exact e2
  have slot' : ∀ {j : Nat} {v : V}, (wipe σ vs)[j]? = some (some v) → σ[j]? = some (some v) := fun {j v} z => (wipe_some z).1
  refine ⟨⟨r'.ex, r'.dom, by rw [unmask_length, r'.len, wipe_length], fun i d h => ?_, fun i d h => ?_, fun i j d e a h h' e1 e2 => ?_⟩, ⟨s.le, fun a o h n => ?_, s.dom, fun a h n => ?_, fun a h => ?_⟩⟩
  · rcases unmask_get h with ⟨h1, h2⟩ | ⟨h1, h2⟩
    · obtain ⟨v, e, rep⟩ := r.val i d h2
      exact ⟨v, e, rep.mono s.le⟩
    · obtain ⟨v, e, rep⟩ := r'.val i d h2
      exact ⟨v, slot' e, rep⟩
  · rcases unmask_get h with ⟨h1, h2⟩ | ⟨h1, h2⟩
    · obtain ⟨a, e, ow⟩ := r.own i d h2
      have n := st h1 h2 e
      refine ⟨a, e, ow.move s.le (s.frz a ow.there n) ?_⟩
      cases q : H a with
      | none => exact absurd q ow.there
      | some u => exact s.keep a u q n
    · obtain ⟨v, e, ow⟩ := r'.own i d h2
      exact ⟨v, slot' e, ow⟩
  · have mix : ∀ {i j : Nat} {d e : D}, i ∈ ms → ρ[i]? = some (some (.o d)) → j ∉ ms → ρ'[j]? = some (some (.o e)) → σ[i]? = some (some (.ref a)) → σ[j]? = some (some (.ref a)) → False := fun {i j d e} hi h1 hj h2 z1 z2 => by
      have z2' : (wipe σ vs)[j]? = some (some (.ref a)) := by rw [wipe_get fun z => hj (hm j z)]; exact z2
      rcases s.sub a ⟨j, e, h2, z2'⟩ with z | z
      · exact st hi h1 z1 z
      · exact (there h1 z1).there z
    rcases unmask_get h with ⟨h1, h2⟩ | ⟨h1, h2⟩
    · rcases unmask_get h' with ⟨h3, h4⟩ | ⟨h3, h4⟩
      · exact r.sep i j d e a h2 h4 e1 e2
      · exact (mix h1 h2 h3 h4 e1 e2).elim
    · rcases unmask_get h' with ⟨h3, h4⟩ | ⟨h3, h4⟩
      · exact (mix h3 h4 h1 h2 e2 e1).elim
      · exact r'.sep i j d e a h2 h4 (by rw [wipe_get fun z => h1 (hm i z)]; exact e1) (by rw [wipe_get fun z => h3 (hm j z)]; exact e2)
  · exact s.keep a o h fun z => by
      obtain ⟨j, e, _, z1, z2⟩ := owned_mask hm hs z
      exact n ⟨j, e, z1, z2⟩
  · exact s.frz a h fun z => by
      obtain ⟨j, e, _, z1, z2⟩ := owned_mask hm hs z
      exact n ⟨j, e, z1, z2⟩
  · obtain ⟨i, d, h1, h2⟩ := h
    rcases unmask_get h1 with ⟨h3, h4⟩ | ⟨h3, h4⟩
    · exact .inl ⟨i, d, h4, h2⟩
    · have z2' : (wipe σ vs)[i]? = some (some (.ref a)) := by rw [wipe_get fun z => h3 (hm i z)]; exact h2
      rcases s.sub a ⟨i, d, h4, z2'⟩ with z | z
      · obtain ⟨j, e, _, z1, z2⟩ := owned_mask hm hs z
        exact .inl ⟨j, e, z1, z2⟩
      · exact .inr z
/-- a thing that no slot has is written -/
theorem R.touch {F H : Hp} {σ : L2.St} {ρ : En} {p : Addr} {o : HO} (r : R K F σ H ρ) (hf : F p = none) (n : ¬ Owned σ ρ p) : R K F σ (upd H p o) ρ := by
  refine ⟨fun b u z => ?_, fun b z => ?_, r.len, r.val, fun i d h => ?_, r.sep⟩
  · rw [upd_ne (fun q => by subst q; rw [hf] at z; cases z)]; exact r.ex b u z
  · by_cases q : b = p
    · subst q; exact hf
    · rw [upd_ne q] at z; exact r.dom b z
  · obtain ⟨a, h1, h2⟩ := r.own i d h
    exact ⟨a, h1, h2.move (Le.refl _) rfl (upd_ne fun q => n ⟨i, d, h, by rw [← q]; exact h1⟩)⟩
theorem Step.touch {σ σ' : L2.St} {ρ ρ' : En} {F F' H H' : Hp} {p : Addr} {o : HO} (s : Step σ ρ F H σ' ρ' F' H') (h : H p = none) : Step σ ρ F H σ' ρ' F' (upd H' p o) :=
  ⟨s.le, fun a u z n => by rw [upd_ne (ne_of_none z h)]; exact s.keep a u z n, fun a z => by
    by_cases q : a = p
    · subst q; exact h
    · rw [upd_ne q] at z; exact s.dom a z, s.frz, s.sub⟩

/-! ### what is walked -/
def ItD (K : PySem.W.Frag) (σ : L2.St) (ρ : En) (F H : Hp) (J : It) (ds : List D) : Prop := ∀ σ' ρ' F' H', R K F' σ' H' ρ' → Step σ ρ F H σ' ρ' F' H' →
  (∀ i d, ds[i]? = some d → J.go i H' ∧ ∀ x H'', J.yld i H' x H'' → ∃ F'', R K F'' σ' H'' ρ' ∧ Step σ' ρ' F' H' σ' ρ' F'' H'' ∧ Rep K F'' x d) ∧ J.stop ds.length H'
abbrev Src := En → Option (List D × En)
/-- ms: slots that are out of reach while it is walked -/
def DI (K : PySem.W.Frag) (wi : TI) (f : Src) (ms : List Nat) : Prop := ∀ (F : Hp) (σ : L2.St) (H : Hp) (ρ : En) (ds : List D) (ρ' : En) (Q : It → Hp → Prop), R K F σ H ρ → f ρ = some (ds, ρ') →
  (∀ J F' H', R K F' σ H' ρ' → Step σ ρ F H σ ρ' F' H' → ItD K σ (mask ms ρ') F' H' J ds → Q J H') → wi σ H Q
def forL (g : Gs) (f : Sv) : List D → En → Option Out
  | [], ρ => some (.nx ρ)
  | d :: ds, ρ => (g d ρ).bind fun ρ1 => (f ρ1).bind fun o => match o with
    | .nx ρ2 => forL g f ds ρ2
    | .ct ρ2 => forL g f ds ρ2
    | .bk ρ2 => some (.nx ρ2)
    | .rt w ρ2 => some (.rt w ρ2)
def sFor (s : Src) (g : Gs) (f : Sv) : Sv := fun ρ => (s ρ).bind fun p => forL g f p.1 p.2
theorem ds_for {wi : TI} {g : TG} {tb : TS} {s : Src} {gs : Gs} {f : Sv} {is : List Nat} (his : ∀ j ∈ is, j ∈ as) (hi : DI K wi s []) (hg : DG K g gs is) (hb : DS K as tb f) : DS K as (tFor wi g tb) (sFor s gs f) := by
  intro F σ H ρ out D r e k
  obtain ⟨⟨ds, ρ1⟩, e1, e⟩ := Option.bind_eq_some_iff.mp e
  dsimp only at e
  refine hi F σ H ρ ds ρ1 _ r e1 fun J F1 H1 r1 s1 it => ?_
  have k1 := k.back s1 (Kp.refl _ _)
  refine ⟨fun i m σ' H' => m = ds.length - i ∧ i ≤ ds.length ∧ ∃ ρ' F', R K F' σ' H' ρ' ∧ Step σ ρ1 F1 H1 σ' ρ' F' H' ∧ Kp as σ σ' ∧ forL gs f (ds.drop i) ρ' = some out, ⟨_, rfl, Nat.zero_le _, ρ1, F1, r1, Step.refl _ _ _ _, Kp.refl _ _, by simpa using e⟩, ?_⟩
  rintro i m σ2 H2 ⟨rfl, hi2, ρ2, F2, r2, s2, kp2, e2⟩
  have it2 := it σ2 ρ2 F2 H2 r2 s2
  by_cases hlt : i < ds.length
  · have hd : ds[i]? = some ds[i] := by simp [hlt]
    rw [List.drop_eq_getElem_cons hlt] at e2
    obtain ⟨ρ3, e3, e2⟩ := Option.bind_eq_some_iff.mp e2
    obtain ⟨o, e4, e2⟩ := Option.bind_eq_some_iff.mp e2
    obtain ⟨go, yl⟩ := it2.1 i _ hd
    refine .inr ⟨go, fun σ' H' => ∃ ρ' F', R K F' σ' H' ρ' ∧ Step σ ρ1 F1 H1 σ' ρ' F' H' ∧ Kp as σ σ' ∧ forL gs f (ds.drop (i + 1)) ρ' = some out, fun σ' H' h => ⟨_, by omega, rfl, hlt, h⟩, fun x H'' hy => ?_⟩
    obtain ⟨F3, r3, s3, rep⟩ := yl x H'' hy
    refine hg F3 σ2 H'' ρ2 x _ ρ3 _ r3 rep e3 fun σ4 F4 H4 r4 s4 o4 _ => ?_
    have s24 := (s2.trans s3).trans s4
    have kp4 : Kp as σ σ4 := kp2.trans fun j hj => o4 j fun z => hj (his j z)
    refine hb F4 σ4 H4 ρ3 o _ r4 e4 ?_
    cases o with
    | nx ρ5 => exact fun σ5 F5 H5 r5 s5 k5 => ⟨ρ5, F5, r5, s24.trans s5, kp4.trans k5, e2⟩
    | ct ρ5 => exact fun σ5 F5 H5 r5 s5 k5 => ⟨ρ5, F5, r5, s24.trans s5, kp4.trans k5, e2⟩
    | bk ρ5 => cases e2; exact k1.back s24 kp4
    | rt w ρ5 => cases e2; exact k1.back s24 kp4
  · have ei : i = ds.length := by omega
    subst ei
    rw [List.drop_length] at e2
    cases e2
    exact .inl ⟨it2.2, k1 σ2 F2 H2 r2 s2 kp2⟩
def whL (c : Tv) (f : Sv) : Nat → En → Option Out
  | 0, _ => none
  | n + 1, ρ => (c ρ).bind fun p => if p.1 = true then (f p.2).bind fun o => match o with
      | .nx ρ2 => whL c f n ρ2
      | .ct ρ2 => whL c f n ρ2
      | .bk ρ2 => some (.nx ρ2)
      | .rt w ρ2 => some (.rt w ρ2)
    else some (.nx p.2)
theorem ds_while {c : TT} {tb : TS} {b : Tv} {f : Sv} (n : Nat) (hc : DT K c b) (hb : DS K as tb f) : DS K as (tWhile c tb) (whL b f n) := by
  intro F σ H ρ out D r e k
  refine ⟨fun m σ' H' => ∃ ρ' F', R K F' σ' H' ρ' ∧ Step σ ρ F H σ' ρ' F' H' ∧ Kp as σ σ' ∧ whL b f m ρ' = some out, ⟨n, ρ, F, r, Step.refl _ _ _ _, Kp.refl _ _, e⟩, ?_⟩
  rintro m σ1 H1 ⟨ρ1, F1, r1, s1, kp1, e1⟩
  cases m with
  | zero => cases e1
  | succ m =>
    obtain ⟨⟨q, ρ2⟩, e2, e1⟩ := Option.bind_eq_some_iff.mp e1
    refine hc F1 σ1 H1 ρ1 q ρ2 _ r1 e2 fun F2 H2 r2 s2 => ?_
    have s12 := s1.trans s2
    cases q with
    | false =>
      have e3 : some (Out.nx ρ2) = some out := by simpa using e1
      cases e3
      exact k σ1 F2 H2 r2 s12 kp1
    | true =>
      rw [if_pos rfl] at e1 ⊢
      obtain ⟨o, e3, e1⟩ := Option.bind_eq_some_iff.mp e1
      refine ⟨fun σ' H' => ∃ ρ' F', R K F' σ' H' ρ' ∧ Step σ ρ F H σ' ρ' F' H' ∧ Kp as σ σ' ∧ whL b f m ρ' = some out, fun σ' H' h => ⟨m, Nat.lt_succ_self m, h⟩, ?_⟩
      refine hb F2 σ1 H2 ρ2 o _ r2 e3 ?_
      cases o with
      | nx ρ5 => exact fun σ5 F5 H5 r5 s5 k5 => ⟨ρ5, F5, r5, s12.trans s5, kp1.trans k5, e1⟩
      | ct ρ5 => exact fun σ5 F5 H5 r5 s5 k5 => ⟨ρ5, F5, r5, s12.trans s5, kp1.trans k5, e1⟩
      | bk ρ5 => cases e1; exact k.back s12 kp1
      | rt w ρ5 => cases e1; exact k.back s12 kp1
/-! ### list comprehensions -/
def lcL (vs : List Nat) (g : Gs) (t : Tv) (f : Ev) : List D → List D → En → Option (List D × En)
  | [], acc, ρ => some (acc, ρ)
  | d :: ds, acc, ρ => (g d ρ).bind fun ρ1 => (t ρ1).bind fun p => if p.1 = true then (f p.2).bind fun q => (rel q.2 q.1).bind fun z =>
      if acc.length < 1000000 then lcL vs g t f ds (acc ++ [z.1]) (mask vs z.2) else none
    else lcL vs g t f ds acc (mask vs p.2)
def sLc (s : Src) (ms vs : List Nat) (g : Gs) (t : Tv) (f : Ev) : Ev := fun ρ => (s ρ).bind fun p => (lcL vs g t f p.1 [] (mask (ms ++ vs) p.2)).map fun q => (.own (.lst q.1), unmask (ms ++ vs) p.2 q.2)
def sYes : Tv := fun ρ => some (true, ρ)
theorem dt_yes : DT K tYes sYes := by
  intro F σ H ρ b ρ' Q r e k
  cases e
  exact k F H r (Step.refl _ _ _ _)
/-- the block's own slots forgotten again -/
theorem R.again {F H : Hp} {σ σ2 : L2.St} {ρ : En} {vs : List Nat} (r : R K F σ2 H ρ) (h : wipe σ2 vs = wipe σ vs) : R K F (wipe σ vs) H (Bl.mask vs ρ) := by
  rw [← h]; exact r.mask fun _ z => z
theorem Step.again {σ0 σ σ2 : L2.St} {ρ0 ρ : En} {F0 H0 F H : Hp} {vs : List Nat} (s : Step σ0 ρ0 F0 H0 σ2 ρ F H) (h : wipe σ2 vs = wipe σ vs) : Step σ0 ρ0 F0 H0 (wipe σ vs) (Bl.mask vs ρ) F H := by
  refine ⟨s.le, s.keep, s.dom, s.frz, fun a z => ?_⟩
  rw [← h] at z
  obtain ⟨j, e, _, z1, z2⟩ := owned_mask (vs := vs) (fun _ q => q) (fun j hj => wipe_get hj) z
  exact s.sub a ⟨j, e, z1, z2⟩
theorem dx_lc {wi : TI} {g : TG} {tt : TT} {te : TE} {s : Src} {ms vs is : List Nat} {gs : Gs} {t : Tv} {f : Ev} (hi : DI K wi s ms) (hg : DG K g gs is) (his : ∀ j ∈ is, j ∈ vs) (ht : DT K tt t) (he : DX K te f) : DX K (tLc wi g tt te vs) (sLc s ms vs gs t f) := by
  intro F σ H ρ w ρ' Q r e k
  obtain ⟨⟨ds, ρ1⟩, e1, e⟩ := Option.bind_eq_some_iff.mp e
  obtain ⟨⟨acc, ρe⟩, e2, e⟩ := Option.map_eq_some_iff.mp e
  cases e
  dsimp only at e2
  refine hi F σ H ρ ds ρ1 _ r e1 fun J F1 H1 r1 s1 it p hp => ?_
  have hm : ∀ j ∈ vs, j ∈ ms ++ vs := fun j hj => List.mem_append_right _ hj
  have hmm : ∀ j ∈ ([] : List Nat), j ∈ ms := fun j hj => by cases hj
  have rm := r1.mask hm
  have nOp : ¬ Owned (wipe σ vs) (mask (ms ++ vs) ρ1) p := fun z => by
    obtain ⟨i, d, h1, h2⟩ := z
    obtain ⟨a, h3, h4⟩ := rm.own i d h1
    have e : some (some (V.ref p)) = some (some (V.ref a)) := h2.symm.trans h3
    cases e; exact h4.there hp
  -- the walked thing, from the masked slots
  have it' : ∀ σ' ρ' F' H', R K F' σ' H' ρ' → Step (wipe σ vs) (mask (ms ++ vs) ρ1) F1 H1 σ' ρ' F' H' → Step σ (mask ms ρ1) F1 H1 σ' ρ' F' H' := fun σ' ρ' F' H' r' s' => by
    have sub : ∀ a, Owned (wipe σ vs) (mask (ms ++ vs) ρ1) a → Owned σ (mask ms ρ1) a := fun a z => by
      obtain ⟨i, d, z1, z2⟩ := z
      obtain ⟨z3, z4⟩ := mask_get z1
      refine ⟨i, d, ?_, (wipe_some z2).1⟩
      have hi : i ∉ ms := fun q => z3 (List.mem_append_left _ q)
      have : ∀ (l : List Nat), i ∉ l → (mask l ρ1)[i]? = ρ1[i]? := by
        intro l
        induction l with
        | nil => intro _; rfl
        | cons x l ih => intro hx; simp only [List.mem_cons, not_or] at hx; unfold mask; rw [List.getElem?_set_ne (Ne.symm hx.1)]; exact ih hx.2
      rw [this ms hi]; exact z4
    exact ⟨s'.le, fun a o h n => s'.keep a o h fun z => n (sub a z), s'.dom, fun a h n => s'.frz a h fun z => n (sub a z), fun a z => (s'.sub a z).imp (sub a) id⟩
  refine ⟨fun i m H' => m = ds.length - i ∧ i ≤ ds.length ∧ ∃ ρ' F' ac vac, R K F' (wipe σ vs) H' ρ' ∧ Step (wipe σ vs) (mask (ms ++ vs) ρ1) F1 H1 (wipe σ vs) ρ' F' H' ∧ lcL vs gs t f (ds.drop i) ac ρ' = some (acc, ρe) ∧
      H' p = some (.lst vac) ∧ F' p = none ∧ ¬ Owned (wipe σ vs) ρ' p ∧ Reps K F' vac ac, ⟨_, rfl, Nat.zero_le _, mask (ms ++ vs) ρ1, F1, [], [], ?_, ?_, by simpa using e2, upd_same, r1.dom p hp, nOp, .nil⟩, ?_⟩
  · exact rm.touch (r1.dom p hp) nOp
  · exact (Step.refl _ _ _ _).touch hp
  rintro i m H2 ⟨rfl, hi2, ρ2, F2, ac, vac, r2, s2, e3, hD, fD, nD, reps⟩
  have it2 := it (wipe σ vs) ρ2 F2 H2 r2 (it' _ _ _ _ r2 s2)
  by_cases hlt : i < ds.length
  · have hd : ds[i]? = some ds[i] := by simp [hlt]
    rw [List.drop_eq_getElem_cons hlt] at e3
    obtain ⟨ρ3, e4, e3⟩ := Option.bind_eq_some_iff.mp e3
    obtain ⟨⟨b, ρ4⟩, e5, e3⟩ := Option.bind_eq_some_iff.mp e3
    obtain ⟨go, yl⟩ := it2.1 i _ hd
    refine .inr ⟨go, fun H' => ∃ ρ' F' ac vac, R K F' (wipe σ vs) H' ρ' ∧ Step (wipe σ vs) (mask (ms ++ vs) ρ1) F1 H1 (wipe σ vs) ρ' F' H' ∧ lcL vs gs t f (ds.drop (i + 1)) ac ρ' = some (acc, ρe) ∧
      H' p = some (.lst vac) ∧ F' p = none ∧ ¬ Owned (wipe σ vs) ρ' p ∧ Reps K F' vac ac, fun H' h => ⟨_, by omega, rfl, hlt, h⟩, fun x H'' hy => ?_⟩
    obtain ⟨F3, r3, s3, rep⟩ := yl x H'' hy
    refine hg F3 (wipe σ vs) H'' ρ2 x _ ρ3 _ r3 rep e4 fun σ4 F4 H4 r4 s4 o4 l4 => ?_
    have hw : wipe σ4 vs = wipe σ vs := by
      have h1 : wipe σ4 vs = wipe (wipe σ vs) vs := wipe_eq l4 fun j hj => o4 j fun z => hj (his j z)
      rw [h1]
      exact wipe_eq (wipe_length _ _) fun j hj => wipe_get hj
    refine ⟨hw, ?_⟩
    have s34 := s3.trans s4
    refine ht F4 σ4 H4 ρ3 b ρ4 _ r4 e5 fun F5 H5 r5 s5 => ?_
    have s35 := s34.trans s5
    have s15 := s2.trans s35
    have keepP : ∀ {σx : L2.St} {ρx : En} {Fx Hx : Hp}, Step (wipe σ vs) ρ2 F2 H2 σx ρx Fx Hx → Hx p = some (.lst vac) ∧ Fx p = none ∧ ¬ Owned σx ρx p := fun sx =>
      ⟨sx.keep p _ hD nD, (sx.frz p (by rw [hD]; simp) nD).trans fD, fun z => (sx.sub p z).elim nD (by rw [hD]; simp)⟩
    cases b with
    | false =>
      rw [if_neg (show ¬ (false, ρ4).fst = true from Bool.false_ne_true)] at e3
      show ∃ ρ', _
      obtain ⟨q1, q2, q3⟩ := keepP (s35.again hw)
      exact ⟨mask vs ρ4, F5, ac, vac, r5.again hw, s15.again hw, e3, q1, q2, q3, reps.mono s35.le⟩
    | true =>
      rw [if_pos rfl] at e3 ⊢
      obtain ⟨⟨w6, ρ6⟩, e6, e3⟩ := Option.bind_eq_some_iff.mp e3
      obtain ⟨⟨d7, ρ7⟩, e7, e3⟩ := Option.bind_eq_some_iff.mp e3
      dsimp only at e3
      split at e3
      · rename_i hz
        refine he F5 σ4 H5 ρ4 w6 ρ6 _ r5 e6 fun y F6 H6 r6 s6 o6 => ?_
        obtain ⟨F7, r7, s7, rep7⟩ := r6.rel s6 o6 e7
        have s37 := s35.trans s7
        obtain ⟨q1, q2, q3⟩ := keepP (s37.again hw)
        refine ⟨vac, q1, by have := reps.length; exact szlt (by omega), mask vs ρ7, F7, ac ++ [d7], vac ++ [y], (r7.again hw).touch q2 q3, ((s2.trans s37).again hw).touch hp, e3, upd_same, q2, q3, (reps.mono s37.le).append (.cons rep7 .nil)⟩
      · cases e3
  · have ei : i = ds.length := by omega
    subst ei
    rw [List.drop_length] at e3
    cases e3
    refine .inl ⟨it2.2, ?_⟩
    obtain ⟨r8, s8⟩ := r1.unmask hm s2 r2
    refine k _ F2 H2 r8 (s1.trans s8) ⟨p, rfl, s1.dom p hp, ⟨fD, vac, hD, reps⟩, fun z => ?_⟩
    rcases s8.sub p z with q | q
    · obtain ⟨i, d, z1, z2⟩ := q
      obtain ⟨a, z3, z4⟩ := r1.own i d z1
      have e : some (some (V.ref p)) = some (some (V.ref a)) := z2.symm.trans z3
      cases e; exact z4.there hp
    · -- it was new when the walk began
      obtain ⟨i, d, z1, z2⟩ := z
      rcases unmask_get z1 with ⟨h3, h4⟩ | ⟨h3, h4⟩
      · obtain ⟨a, z3, z4⟩ := r1.own i d h4
        have e : some (some (V.ref p)) = some (some (V.ref a)) := z2.symm.trans z3
        cases e; exact z4.there hp
      · exact nD ⟨i, d, h4, by rw [wipe_get fun q => h3 (hm i q)]; exact z2⟩
end
end Bl
namespace Bl
open PySem PySem.Spec PyProof.Rows L2 Evl
section
variable {K : PySem.W.Frag}
theorem rb_int {F H : Hp} {v : V} {i : Int} (h : RB K F H v (.int i)) : v = .int i := by
  have h : Rep K F v (.int i) := h
  cases h; rfl
theorem rb_str {F H : Hp} {v : V} {i : Str} (h : RB K F H v (.str i)) : v = .str i := by
  have h : Rep K F v (.str i) := h
  cases h; rfl
theorem rb_non {F H : Hp} {v : V} (h : RB K F H v .non) : v = .non := by
  have h : Rep K F v .non := h
  cases h; rfl
theorem OpD.or {r r' : R2} {g g' : D → D → Option Opd} (h : OpD K r g) (h' : OpD K r' g') : OpD K (fun x y H Q => r x y H Q ∨ r' x y H Q) (fun a b => (g a b).or (g' a b)) := by
  intro F σ H ρ x y dx dy w Q r0 hx hy e k
  rcases Option.or_eq_some_iff.mp e with e | ⟨_, e⟩
  · exact .inl (h F σ H ρ x y dx dy w Q r0 hx hy e k)
  · exact .inr (h' F σ H ρ x y dx dy w Q r0 hx hy e k)
theorem UnD.or {r r' : V → Hp → VK → Prop} {g g' : D → Option Opd} (h : UnD K r g) (h' : UnD K r' g') : UnD K (fun x H Q => r x H Q ∨ r' x H Q) (fun a => (g a).or (g' a)) := by
  intro F σ H ρ x dx w Q r0 hx e k
  rcases Option.or_eq_some_iff.mp e with e | ⟨_, e⟩
  · exact .inl (h F σ H ρ x dx w Q r0 hx e k)
  · exact .inr (h' F σ H ρ x dx w Q r0 hx e k)
/-! ### ints -/
def iOp (g : Int → Int → Option Int) : D → D → Option Opd
  | .int i, .int j => (g i j).map fun z => .val (.int z)
  | _, _ => none
def iCmp (g : Int → Int → Bool) : D → D → Option Opd
  | .int i, .int j => some (.val (.bl (g i j)))
  | _, _ => none
theorem od_I {C : Int → Int → Prop} {h : Int → Int → Int} {g : Int → Int → Option Int} (hg : ∀ i j z, g i j = some z → C i j ∧ z = h i j) : OpD K (rI C fun i j => .int (h i j)) (iOp g) := by
  intro F σ H ρ x y dx dy w Q r0 hx hy e k
  cases dx <;> try (cases e; done)
  cases dy <;> try (cases e; done)
  rename_i i j
  obtain ⟨z, e1, e⟩ := Option.map_eq_some_iff.mp e
  cases e
  obtain ⟨c, rfl⟩ := hg i j z e1
  exact ⟨i, j, rb_int hx, rb_int hy, c, k.flat r0 (.int _)⟩
theorem od_I0 {h : Int → Int → Int} : OpD K (rI0 fun i j => .int (h i j)) (iOp fun i j => some (h i j)) := by
  intro F σ H ρ x y dx dy w Q r0 hx hy e k
  cases dx <;> try (cases e; done)
  cases dy <;> try (cases e; done)
  rename_i i j
  cases e
  exact ⟨i, j, rb_int hx, rb_int hy, k.flat r0 (.int _)⟩
theorem od_B0 {h : Int → Int → Bool} : OpD K (rI0 fun i j => .bl (h i j)) (iCmp h) := by
  intro F σ H ρ x y dx dy w Q r0 hx hy e k
  cases dx <;> try (cases e; done)
  cases dy <;> try (cases e; done)
  rename_i i j
  cases e
  exact ⟨i, j, rb_int hx, rb_int hy, k.flat r0 (.bl _)⟩
/-! ### lists, tuples, texts: + -/
def catL : D → D → Option Opd
  | .lst a, .lst b => if a.length + b.length ≤ 1000000 then some (.own (.lst (a ++ b))) else none
  | _, _ => none
def catT : D → D → Option Opd
  | .tup a, .tup b => if a.length + b.length ≤ 1000000 ∧ allP (a ++ b) = false then some (.val (.tup (a ++ b))) else none
  | _, _ => none
def catS : D → D → Option Opd
  | .str a, .str b => if a.length + b.length ≤ 1000000 then some (.val (.str (a ++ b))) else none
  | _, _ => none
theorem od_catL : OpD K rCat catL := by
  intro F σ H ρ x y dx dy w Q r0 hx hy e k
  cases dx <;> try (cases e; done)
  cases dy <;> try (cases e; done)
  dsimp only [catL] at e
  split at e
  · rename_i hz
    cases e
    obtain ⟨a, vs, rfl, h1, h2⟩ := hx
    obtain ⟨b, ws, rfl, h3, h4⟩ := hy
    exact ⟨a, b, vs, ws, rfl, rfl, h1, h3, by rw [h2.length, h4.length]; exact szl hz, fun p hp => k.newL r0 hp (h2.append h4)⟩
  · cases e
theorem rb_tup {F H : Hp} {v : V} {ds : List D} (h : RB K F H v (.tup ds)) : ∃ a vs, v = .ref a ∧ SqT K F a vs ∧ Reps K F vs ds ∧ (allP ds = true → PlT F a) := by
  have h : Rep K F v (.tup ds) := h
  cases h with
  | tup a q b => exact ⟨_, _, rfl, a, b, q⟩
theorem od_catT : OpD K (rCatA K) catT := by
  intro F σ H ρ x y dx dy w Q r0 hx hy e k
  cases dx <;> try (cases e; done)
  cases dy <;> try (cases e; done)
  dsimp only [catT] at e
  split at e
  · rename_i hz
    cases e
    obtain ⟨a, vs, rfl, h1, h2, p1⟩ := rb_tup hx
    obtain ⟨b, ws, rfl, h3, h4, p2⟩ := rb_tup hy
    refine ⟨a, b, vs, ws, rfl, rfl, r0.ex.le.sqT h1, r0.ex.le.sqT h3, by rw [h2.length, h4.length]; exact szl hz.1, fun z => ?_, fun _ z => ?_, fun _ _ p hp => k.newT r0 hp (h2.append h4) hz.2⟩
    · subst z; cases h2; exact k.flat r0 (.tup h3 p2 h4)
    · subst z; cases h4; rw [List.append_nil] at k; exact k.flat r0 (.tup h1 p1 h2)
  · cases e
theorem od_catS : OpD K (fun x y H Q => ∃ i j, x = .str i ∧ y = .str j ∧ i.length + j.length ≤ sizeLine ∧ Q (.str (i ++ j)) H) catS := by
  intro F σ H ρ x y dx dy w Q r0 hx hy e k
  cases dx <;> try (cases e; done)
  cases dy <;> try (cases e; done)
  dsimp only [catS] at e
  split at e
  · rename_i hz
    cases e
    exact ⟨_, _, rb_str hx, rb_str hy, szl hz, k.flat r0 (.str _)⟩
  · cases e
def repL : D → D → Option Opd
  | .lst a, .int k => if 0 ≤ k ∧ k < 1000 ∧ a.length ≤ 1000 then some (.own (.lst (List.replicate k.toNat a).flatten)) else none
  | _, _ => none
theorem reps_rep {F : Hp} {vs : List V} {ds : List D} (h : Reps K F vs ds) : ∀ n : Nat, Reps K F (List.replicate n vs).flatten (List.replicate n ds).flatten
  | 0 => .nil
  | n + 1 => by rw [List.replicate_succ, List.replicate_succ, List.flatten_cons, List.flatten_cons]; exact h.append (reps_rep h n)
/-! ### texts compared; equality of data -/
def ltS : D → D → Option Opd
  | .str a, .str b => some (.val (.bl (decide (a.cps.toList < b.cps.toList))))
  | _, _ => none
theorem od_ltS : OpD K (fun x y H Q => ∃ i j, x = .str i ∧ y = .str j ∧ Q (.bl (decide (i.cps.toList < j.cps.toList))) H) ltS := by
  intro F σ H ρ x y dx dy w Q r0 hx hy e k
  cases dx <;> try (cases e; done)
  cases dy <;> try (cases e; done)
  cases e
  exact ⟨_, _, rb_str hx, rb_str hy, k.flat r0 (.bl _)⟩
mutual
def toPy : D → Option PyData
  | .non => some .none
  | .bl b => some (.bool b)
  | .int i => some (.int i)
  | .str x => some (.str x)
  | .lst xs => (toPys xs).map .list
  | .tup xs => (toPys xs).map .tuple
  | .dic _ => none
  | .obj _ _ => none
  | .scr _ => none
  | .dicF _ => none
def toPys : List D → Option (List PyData)
  | [] => some []
  | d :: ds => (toPy d).bind fun p => (toPys ds).map fun ps => p :: ps
end
mutual
theorem Rep.dp {F H : Hp} (ex : Ex F H) : ∀ {v : V} {d : D} {p : PyData}, Rep K F v d → toPy d = some p → Dp K H v p
  | _, _, _, .non, e => by cases e; exact .non
  | _, _, _, .bl b, e => by cases e; exact .bl b
  | _, _, _, .int i, e => by cases e; exact .int i
  | _, _, _, .str x, e => by cases e; exact .str x
  | _, _, _, .lst h r, e => by
    unfold toPy at e
    obtain ⟨ps, e1, e⟩ := Option.map_eq_some_iff.mp e
    cases e
    exact .lst (SqL.of (ex _ _ h)) (Reps.dp ex r e1)
  | _, _, _, .tup h _ r, e => by
    unfold toPy at e
    obtain ⟨ps, e1, e⟩ := Option.map_eq_some_iff.mp e
    cases e
    exact .tup (ex.le.sqT h) (Reps.dp ex r e1)
  | _, _, _, .dic _ _, e => by cases e
  | _, _, _, .obj _ _, e => by cases e
  | _, _, _, .scr _, e => by cases e
  | _, _, _, .dicF _ _, e => by cases e
theorem Reps.dp {F H : Hp} (ex : Ex F H) : ∀ {v : List V} {d : List D} {p : List PyData}, Reps K F v d → toPys d = some p → DpAll K H v p
  | _, _, _, .nil, e => by cases e; exact .nil
  | _, _, _, .cons h r, e => by
    unfold toPys at e
    obtain ⟨p1, e1, e⟩ := Option.bind_eq_some_iff.mp e
    obtain ⟨ps, e2, e⟩ := Option.map_eq_some_iff.mp e
    cases e
    exact .cons (Rep.dp ex h e1) (Reps.dp ex r e2)
end
theorem RB.dp {F H : Hp} (ex : Ex F H) {v : V} {d : D} {p : PyData} (h : RB K F H v d) (e : toPy d = some p) : Dp K H v p := by
  cases d with
  | lst ds =>
    obtain ⟨a, vs, rfl, h1, h2⟩ := h
    unfold toPy at e
    obtain ⟨ps, e1, e⟩ := Option.map_eq_some_iff.mp e
    cases e
    exact .lst (SqL.of h1) (h2.dp ex e1)
  | dic ds => cases e
  | obj c fs => cases e
  | scr ns => cases e
  | dicF ns => cases e
  | non => exact Rep.dp ex h e
  | bl b => exact Rep.dp ex h e
  | int b => exact Rep.dp ex h e
  | str b => exact Rep.dp ex h e
  | tup b => exact Rep.dp ex h e
def eqD (a b : D) : Option Bool := match toPy a, toPy b with
  | some p, some q => if SeqAt.shaped p && SeqAt.shaped q then some (PyData.eqv p q) else none
  | _, _ => none
def eqO (a b : D) : Option Opd := (eqD a b).map fun z => .val (.bl z)
def neO (a b : D) : Option Opd := (eqD a b).map fun z => .val (.bl (!z))
theorem eqD_some {a b : D} {z : Bool} (h : eqD a b = some z) : ∃ p q, toPy a = some p ∧ toPy b = some q ∧ SeqAt.shaped p = true ∧ SeqAt.shaped q = true ∧ z = PyData.eqv p q := by
  unfold eqD at h
  split at h
  · rename_i p q e1 e2
    split at h
    · rename_i hs
      cases h
      exact ⟨p, q, e1, e2, (Bool.and_eq_true_iff.mp hs).1, (Bool.and_eq_true_iff.mp hs).2, rfl⟩
    · cases h
  · cases h
theorem od_eq : OpD K (rEqD K) eqO := by
  intro F σ H ρ x y dx dy w Q r0 hx hy e k
  obtain ⟨z, e1, e⟩ := Option.map_eq_some_iff.mp e
  cases e
  obtain ⟨p, q, h1, h2, h3, h4, rfl⟩ := eqD_some e1
  exact ⟨p, q, hx.dp r0.ex h1, hy.dp r0.ex h2, h3, h4, k.flat r0 (.bl _)⟩
theorem od_ne : OpD K (rNeD K) neO := by
  intro F σ H ρ x y dx dy w Q r0 hx hy e k
  obtain ⟨z, e1, e⟩ := Option.map_eq_some_iff.mp e
  cases e
  obtain ⟨p, q, h1, h2, h3, h4, rfl⟩ := eqD_some e1
  exact ⟨p, q, hx.dp r0.ex h1, hy.dp r0.ex h2, h3, h4, k.flat r0 (.bl _)⟩
/-! ### is None, is True -/
def isNonD : D → Bool
  | .non => true
  | _ => false
theorem rb_isN {F H : Hp} {v : V} {d : D} (h : RB K F H v d) : decide (v = .non) = isNonD d := by
  cases d with
  | lst ds => obtain ⟨a, vs, rfl, _, _⟩ := h; rfl
  | dic ds => obtain ⟨a, vs, rfl, _, _⟩ := h; rfl
  | non => rw [rb_non h]; rfl
  | bl b => rw [rb_bl h]; rfl
  | int b => rw [rb_int h]; rfl
  | str b => rw [rb_str h]; rfl
  | tup b => obtain ⟨a, vs, rfl, _, _⟩ := rb_tup h; rfl
  | obj c fs =>
    have h : Rep K F v (.obj c fs) := h
    cases h; rfl
  | scr ns =>
    have h : Rep K F v (.scr ns) := h
    cases h; rfl
  | dicF ns =>
    have h : Rep K F v (.dicF ns) := h
    cases h; rfl
def isO : D → D → Option Opd
  | a, .non => some (.val (.bl (isNonD a)))
  | _, _ => none
def isntO : D → D → Option Opd
  | a, .non => some (.val (.bl (!isNonD a)))
  | _, _ => none
theorem od_isN : OpD K (fun x y H Q => y = .non ∧ Q (.bl (decide (x = .non))) H) isO := by
  intro F σ H ρ x y dx dy w Q r0 hx hy e k
  cases dy <;> try (cases e; done)
  cases e
  refine ⟨rb_non hy, ?_⟩
  rw [rb_isN hx]
  exact k.flat r0 (.bl _)
theorem od_notN : OpD K (fun x y H Q => y = .non ∧ Q (.bl (!decide (x = .non))) H) isntO := by
  intro F σ H ρ x y dx dy w Q r0 hx hy e k
  cases dy <;> try (cases e; done)
  cases e
  refine ⟨rb_non hy, ?_⟩
  rw [rb_isN hx]
  exact k.flat r0 (.bl _)
/-! ### in -/
def flatD : D → Bool
  | .non | .bl _ | .int _ | .str _ => true
  | _ => false
def toV : D → V
  | .bl b => .bl b
  | .int i => .int i
  | .str x => .str x
  | _ => .non
theorem rep_flat {F : Hp} {v : V} {d : D} (h : Rep K F v d) (hf : flatD d = true) : v = toV d ∧ flatV v = true := by
  cases h <;> first | exact ⟨rfl, rfl⟩ | cases hf
theorem reps_flat {F : Hp} : ∀ {vs : List V} {ds : List D}, Reps K F vs ds → ds.all flatD = true → vs = ds.map toV ∧ vs.all flatV = true
  | _, _, .nil, _ => ⟨rfl, rfl⟩
  | _, _, .cons h r, hf => by
    rw [List.all_cons, Bool.and_eq_true] at hf
    obtain ⟨h1, h2⟩ := rep_flat h hf.1
    obtain ⟨h3, h4⟩ := reps_flat r hf.2
    exact ⟨by rw [h1, h3]; rfl, by rw [List.all_cons, h2, h4]; rfl⟩
theorem rb_flat {F H : Hp} {v : V} {d : D} (h : RB K F H v d) (hf : flatD d = true) : v = toV d ∧ flatV v = true := by
  cases d <;> first | exact rep_flat h hf | cases hf
def inSeq (neg : Bool) (x y : D) : Option Opd := match y with
  | .lst ds => if flatD x && ds.all flatD then some (.val (.bl (if neg then !inV (toV x) (ds.map toV) else inV (toV x) (ds.map toV)))) else none
  | .tup ds => if flatD x && ds.all flatD then some (.val (.bl (if neg then !inV (toV x) (ds.map toV) else inV (toV x) (ds.map toV)))) else none
  | _ => none
theorem od_in (neg : Bool) : OpD K (rIn K neg) (inSeq neg) := by
  intro F σ H ρ x y dx dy w Q r0 hx hy e k
  unfold inSeq at e
  cases dy <;> try (cases e; done)
  · dsimp only at e
    split at e
    · rename_i hf
      cases e
      obtain ⟨h1, h2⟩ := Bool.and_eq_true_iff.mp hf
      obtain ⟨a, vs, rfl, h3, h4⟩ := hy
      obtain ⟨h5, h6⟩ := reps_flat h4 h2
      obtain ⟨h7, h8⟩ := rb_flat hx h1
      refine ⟨a, vs, rfl, .inl (SqL.of h3), h8, h6, ?_⟩
      rw [h7, h5]
      exact k.flat r0 (.bl _)
    · cases e
  · dsimp only at e
    split at e
    · rename_i hf
      cases e
      obtain ⟨h1, h2⟩ := Bool.and_eq_true_iff.mp hf
      obtain ⟨a, vs, rfl, h3, h4, _⟩ := rb_tup hy
      obtain ⟨h5, h6⟩ := reps_flat h4 h2
      obtain ⟨h7, h8⟩ := rb_flat hx h1
      refine ⟨a, vs, rfl, .inr (r0.ex.le.sqT h3), h8, h6, ?_⟩
      rw [h7, h5]
      exact k.flat r0 (.bl _)
    · cases e
/-- a sign in a text -/
def inStr (neg : Bool) (x y : D) : Option Opd := match x, y with
  | .str a, .str b => some (.val (.bl (if neg then !(!(Builtin.Str.occurrences b a 0 b.length 1).isEmpty) else !(Builtin.Str.occurrences b a 0 b.length 1).isEmpty)))
  | _, _ => none
theorem od_inStr : OpD K (fun x y H Q => ∃ i j, x = .str i ∧ y = .str j ∧ Q (.bl (!(Builtin.Str.occurrences j i 0 j.length 1).isEmpty)) H) (inStr false) := by
  intro F σ H ρ x y dx dy w Q r0 hx hy e k
  cases dx <;> try (cases e; done)
  cases dy <;> try (cases e; done)
  cases e
  exact ⟨_, _, rb_str hx, rb_str hy, k.flat r0 (.bl _)⟩
theorem od_notinStr : OpD K (fun x y H Q => ∃ i j, x = .str i ∧ y = .str j ∧ Q (.bl (!(!(Builtin.Str.occurrences j i 0 j.length 1).isEmpty))) H) (inStr true) := by
  intro F σ H ρ x y dx dy w Q r0 hx hy e k
  cases dx <;> try (cases e; done)
  cases dy <;> try (cases e; done)
  cases e
  exact ⟨_, _, rb_str hx, rb_str hy, k.flat r0 (.bl _)⟩
/-! ### dicts: in, [] -/
def keyD : D → Option Key
  | .int i => some (.inl i)
  | .str x => some (.inr x)
  | _ => none
def getK (ks : List (Key × D)) (k : Key) : Option D := (ks.find? fun kv => decide (kv.1 = k)).map (·.2)
def putD (kvs : List (Key × D)) (k : Key) (v : D) : List (Key × D) := if kvs.any (fun kv => decide (kv.1 = k)) then kvs.map (fun kv => if kv.1 = k then (kv.1, v) else kv) else kvs ++ [(k, v)]
theorem key_rb {F H : Hp} {v : V} {d : D} {k : Key} (h : RB K F H v d) (e : keyD d = some k) : v = kV k := by
  cases d <;> try (cases e; done)
  · cases e; exact rb_int h
  · cases e; exact rb_str h
theorem getK_rep {F : Hp} {k : Key} : ∀ {vs : List (Key × V)} {ds : List (Key × D)}, RepKs K F vs ds → (∀ d, getK ds k = some d → ∃ v, valV vs k = some v ∧ Rep K F v d) ∧ (getK ds k = none → valV vs k = none)
  | _, _, .nil => ⟨fun d e => (by cases e), fun _ => rfl⟩
  | _, _, .cons (k := j) (v := v) (d := d) h r => by
    obtain ⟨i1, i2⟩ := getK_rep (k := k) r
    unfold getK valV at *
    by_cases hj : j = k
    · subst hj
      simp only [List.find?_cons, decide_true, Option.map_some]
      exact ⟨fun e q => (by cases q; exact ⟨v, rfl, h⟩), fun q => (by cases q)⟩
    · simp only [List.find?_cons, decide_eq_false hj]
      exact ⟨i1, i2⟩
def inDic (neg : Bool) (x y : D) : Option Opd := match y with
  | .dic ks => (keyD x).map fun k => .val (.bl (if neg then !(getK ks k).isSome else (getK ks k).isSome))
  | .dicF ks => (keyD x).map fun k => .val (.bl (if neg then !(getK ks k).isSome else (getK ks k).isSome))
  | _ => none
theorem has_rep {F : Hp} {vs : List (Key × V)} {ks : List (Key × D)} (h : RepKs K F vs ks) (k : Key) : (valV vs k).isSome = (getK ks k).isSome := by
  have g := getK_rep (k := k) h
  cases q : getK ks k with
  | none => rw [g.2 q]; rfl
  | some d => obtain ⟨v, ev, _⟩ := g.1 d q; rw [ev]; rfl
def rDIn : R2 := fun y x H Q => ∃ a o, x = .ref a ∧ DGet H a y o ∧ Q (.bl o.isSome) H
def rDNin : R2 := fun y x H Q => ∃ a o, x = .ref a ∧ DGet H a y o ∧ Q (.bl (!o.isSome)) H
theorem od_din : OpD K rDIn (inDic false) := by
  intro F σ H ρ x y dx dy w Q r0 hx hy e k
  cases dy <;> try (cases e; done)
  · obtain ⟨key, e1, e⟩ := Option.map_eq_some_iff.mp e
    cases e
    obtain ⟨a, vs, rfl, h1, h2⟩ := hy
    exact ⟨a, valV vs key, rfl, .inl ⟨vs, key, Rd.of h1, key_rb hx e1, rfl⟩, by rw [has_rep h2 key]; exact k.flat r0 (.bl _)⟩
  · obtain ⟨key, e1, e⟩ := Option.map_eq_some_iff.mp e
    cases e
    cases hy with
    | @dicF a o vs _ h1 h2 => exact ⟨a, valV vs key, rfl, .inl ⟨vs, key, .inr ⟨o, r0.ex _ _ h1⟩, key_rb hx e1, rfl⟩, by rw [has_rep h2 key]; exact k.flat r0 (.bl _)⟩
theorem od_dnin : OpD K rDNin (inDic true) := by
  intro F σ H ρ x y dx dy w Q r0 hx hy e k
  cases dy <;> try (cases e; done)
  · obtain ⟨key, e1, e⟩ := Option.map_eq_some_iff.mp e
    cases e
    obtain ⟨a, vs, rfl, h1, h2⟩ := hy
    exact ⟨a, valV vs key, rfl, .inl ⟨vs, key, Rd.of h1, key_rb hx e1, rfl⟩, by rw [has_rep h2 key]; exact k.flat r0 (.bl _)⟩
  · obtain ⟨key, e1, e⟩ := Option.map_eq_some_iff.mp e
    cases e
    cases hy with
    | @dicF a o vs _ h1 h2 => exact ⟨a, valV vs key, rfl, .inl ⟨vs, key, .inr ⟨o, r0.ex _ _ h1⟩, key_rb hx e1, rfl⟩, by rw [has_rep h2 key]; exact k.flat r0 (.bl _)⟩
def rDIx : R2 := fun x y H Q => ∃ a v, x = .ref a ∧ DGet H a y (some v) ∧ Q v H
def ixDic (x y : D) : Option Opd := match x with
  | .dic ks => (keyD y).bind fun k => (getK ks k).map .val
  | .dicF ks => (keyD y).bind fun k => (getK ks k).map .val
  | _ => none
theorem od_ixDic : OpD K rDIx ixDic := by
  intro F σ H ρ x y dx dy w Q r0 hx hy e k
  unfold ixDic at e
  cases dx <;> try (cases e; done)
  · obtain ⟨key, e1, e⟩ := Option.bind_eq_some_iff.mp e
    obtain ⟨d, e2, e⟩ := Option.map_eq_some_iff.mp e
    cases e
    obtain ⟨a, vs, rfl, h1, h2⟩ := hx
    obtain ⟨v, g1, g2⟩ := (getK_rep (k := key) h2).1 d e2
    exact ⟨a, v, rfl, .inl ⟨vs, key, Rd.of h1, key_rb hy e1, g1.symm⟩, k.flat r0 g2⟩
  · obtain ⟨key, e1, e⟩ := Option.bind_eq_some_iff.mp e
    obtain ⟨d, e2, e⟩ := Option.map_eq_some_iff.mp e
    cases e
    cases hx with
    | @dicF a o vs _ h1 h2 =>
      obtain ⟨v, g1, g2⟩ := (getK_rep (k := key) h2).1 d e2
      exact ⟨a, v, rfl, .inl ⟨vs, key, .inr ⟨o, r0.ex _ _ h1⟩, key_rb hy e1, g1.symm⟩, k.flat r0 g2⟩
/-! ### xs[i], t[i] -/
def ixSeq (x y : D) : Option Opd := match x, y with
  | .lst ds, .int i => (atI ds i).map .val
  | .tup ds, .int i => (atI ds i).map .val
  | _, _ => none
theorem atI_rep {F : Hp} {vs : List V} {ds : List D} (h : Reps K F vs ds) {i : Int} {d : D} (e : atI ds i = some d) : ∃ v, atI vs i = some v ∧ Rep K F v d := by
  unfold atI at e ⊢
  obtain ⟨j, e1, e2⟩ := Option.bind_eq_some_iff.mp e
  obtain ⟨v, h1, h2⟩ := h.get e2
  exact ⟨v, by rw [h.length, e1]; exact h1, h2⟩
theorem od_ixSeq : OpD K (rIx K) ixSeq := by
  intro F σ H ρ x y dx dy w Q r0 hx hy e k
  unfold ixSeq at e
  cases dx <;> try (cases e; done)
  · cases dy <;> try (cases e; done)
    obtain ⟨d, e1, e⟩ := Option.map_eq_some_iff.mp e
    cases e
    obtain ⟨a, vs, rfl, h1, h2⟩ := hx
    obtain ⟨v, h3, h4⟩ := atI_rep h2 e1
    exact .inl ⟨a, vs, _, v, rfl, rb_int hy, SqL.of h1, h3, k.flat r0 h4⟩
  · cases dy <;> try (cases e; done)
    obtain ⟨d, e1, e⟩ := Option.map_eq_some_iff.mp e
    cases e
    obtain ⟨a, vs, rfl, h1, h2, _⟩ := rb_tup hx
    obtain ⟨v, h3, h4⟩ := atI_rep h2 e1
    exact .inr (.inl ⟨a, vs, _, v, rfl, rb_int hy, r0.ex.le.sqT h1, h3, k.flat r0 h4⟩)
theorem dx_dget {td ty : TE} {f g : Ev} (h : DX K td f) (h2 : DX K ty g) : DX K (tDGet td ty) (sOp ixDic f g) := dx_op od_ixDic h h2
theorem dx_din {td ty : TE} {f g : Ev} (h : DX K ty f) (h2 : DX K td g) : DX K (tDIn ty td) (sOp (inDic false) f g) := dx_op od_din h h2
theorem dx_dnin {td ty : TE} {f g : Ev} (h : DX K ty f) (h2 : DX K td g) : DX K (tDNotIn ty td) (sOp (inDic true) f g) := dx_op od_dnin h h2
end
end Bl
namespace Bl
open PySem PySem.Spec PyProof.Rows L2 Evl
section
variable {K : PySem.W.Frag}
/-! ### slices -/
abbrev Ov := En → Option (Option Int × En)
def DO (K : PySem.W.Frag) (to : TO) (f : Ov) : Prop := ∀ (F : Hp) (σ : L2.St) (H : Hp) (ρ : En) (o : Option Int) (ρ' : En) (Q : Option Int → Hp → Prop), R K F σ H ρ → f ρ = some (o, ρ') →
  (∀ F' H', R K F' σ H' ρ' → Step σ ρ F H σ ρ' F' H' → Q o H') → to σ H Q
def sNoPart : Ov := fun ρ => some (none, ρ)
def sPart (f : Ev) : Ov := fun ρ => (f ρ).bind fun p => match rd p.2 p.1 with
  | some (.int i) => some (some i, p.2)
  | _ => none
theorem do_none : DO K tNoPart sNoPart := by
  intro F σ H ρ o ρ' Q r e k
  cases e
  exact k F H r (Step.refl _ _ _ _)
theorem do_some {te : TE} {f : Ev} (h : DX K te f) : DO K (tPart te) (sPart f) := by
  intro F σ H ρ o ρ' Q r0 e k
  unfold sPart at e
  obtain ⟨⟨w1, ρ1⟩, e1, e⟩ := Option.bind_eq_some_iff.mp e
  split at e
  · rename_i c ec
    cases e
    refine h F σ H ρ w1 _ _ r0 e1 fun v F1 H1 r1 s1 o1 => ?_
    exact ⟨_, rb_int (r1.rd o1 ec), k F1 H1 r1 s1⟩
  · cases e
def cutD (xs : List D) (lo hi : Option Int) : List D := (xs.drop (HT.sIx xs.length 0 lo)).take (HT.sIx xs.length xs.length hi - HT.sIx xs.length 0 lo)
def cutO (lo hi : Option Int) : D → Option Opd
  | .lst ds => some (.own (.lst (cutD ds lo hi)))
  | .tup ds => if allP (cutD ds lo hi) then none else some (.val (.tup (cutD ds lo hi)))
  | .scr ns => some (.own (.lst (cutD (ns.map D.int) lo hi)))
  | _ => none
def rSlB (K : PySem.W.Frag) : V → Option Int → Option Int → Hp → VK → Prop := fun x lo hi H Q => rSlL K x lo hi H Q ∨ rSlA K x lo hi H Q
theorem cut_rep {F : Hp} {vs : List V} {ds : List D} (h : Reps K F vs ds) (lo hi : Option Int) : Reps K F (cutV vs lo hi) (cutD ds lo hi) := by
  unfold cutV cutD
  rw [h.length]
  exact (h.drop _).take _
theorem reps_ints {F : Hp} : ∀ ns : List Int, Reps K F (ns.map V.int) (ns.map D.int)
  | [] => .nil
  | n :: ns => .cons (.int n) (reps_ints ns)
theorem cut_whole {ds : List D} {lo hi : Option Int} (h : HT.sIx ds.length 0 lo = 0 ∧ HT.sIx ds.length ds.length hi = ds.length) : cutD ds lo hi = ds := by
  unfold cutD
  rw [h.1, h.2]
  simp
def sSlice (f : Ev) (l h : Ov) : Ev := fun ρ => (f ρ).bind fun p => (l p.2).bind fun a => (h a.2).bind fun b => (rd b.2 p.1).bind fun d => (cutO a.1 b.1 d).map fun w => (w, b.2)
theorem dx_slice {te : TE} {tl th : TO} {f : Ev} {l h : Ov} (h1 : DX K te f) (h2 : DO K tl l) (h3 : DO K th h) : DX K (tSl (rSlB K) te tl th) (sSlice f l h) := by
  intro F σ H ρ w ρ' Q r0 e k
  obtain ⟨⟨w1, ρ1⟩, e1, e⟩ := Option.bind_eq_some_iff.mp e
  obtain ⟨⟨a, ρ2⟩, e2, e⟩ := Option.bind_eq_some_iff.mp e
  obtain ⟨⟨b, ρ3⟩, e3, e⟩ := Option.bind_eq_some_iff.mp e
  obtain ⟨d, e4, e⟩ := Option.bind_eq_some_iff.mp e
  obtain ⟨w5, e5, e⟩ := Option.map_eq_some_iff.mp e
  cases e
  refine h1 F σ H ρ w1 ρ1 _ r0 e1 fun x F1 H1 r1 s1 o1 => ?_
  refine h2 F1 σ H1 ρ1 a ρ2 _ r1 e2 fun F2 H2 r2 s2 => ?_
  refine h3 F2 σ H2 ρ2 b ρ3 _ r2 e3 fun F3 H3 r3 s3 => ?_
  have o3 := (o1.move s2).move s3
  have s13 := (s1.trans s2).trans s3
  have k' : Gv K F3 σ H3 ρ3 w Q := fun v F4 H4 r4 s4 o4 => k v F4 H4 r4 (s13.trans s4) (o4.base s13.dom)
  have rb := r3.rd o3 e4
  cases d <;> try (cases e5; done)
  · cases e5
    obtain ⟨p, vs, rfl, g1, g2⟩ := rb
    exact .inl ⟨p, vs, rfl, SqL.of g1, fun q hq => k'.newL r3 hq (cut_rep g2 a b)⟩
  · dsimp only [cutO] at e5
    split at e5
    · cases e5
    · rename_i hn
      cases e5
      obtain ⟨p, vs, rfl, g1, g2, g3⟩ := rb_tup rb
      refine .inr ⟨p, vs, rfl, r3.ex.le.sqT g1, fun z => ?_, fun _ q hq => k'.newT r3 hq (cut_rep g2 a b) (by simpa using hn)⟩
      rw [g2.length] at z
      have := cut_whole (ds := _) z
      rw [this] at k'
      exact k'.flat r3 (.tup g1 g3 g2)
  · cases e5
    have rb : Rep K F3 x (.scr _) := rb
    cases rb with
    | scr h => exact .inl ⟨_, _, rfl, r3.ex.le.sqL h, fun q hq => k'.newL r3 hq (cut_rep (reps_ints _) a b)⟩
/-! ### isinstance -/
def tyName : D → Option String
  | .non => some "NoneType"
  | .bl _ => some "bool"
  | .int _ => some "int"
  | .str _ => some "str"
  | .lst _ => some "list"
  | .tup _ => some "tuple"
  | .dic _ => some "dict"
  | .obj _ _ => none
  | .scr _ => none
  | .dicF _ => none
def isAny (t : String) : List String → Option Bool
  | [] => some false
  | n :: ns => (kitB t n).bind fun b => if b = true then some true else isAny t ns
def isiO (ns : List String) (d : D) : Option Opd := (tyName d).bind fun t => (isAny t ns).map fun b => .val (.bl b)
theorem rb_ty {F H : Hp} {v : V} {d : D} {t : String} (ex : Ex F H) (h : RB K F H v d) (e : tyName d = some t) : TyX K H v (.type t) := by
  cases d with
  | non => cases e; rw [rb_non h]; exact .base .non
  | bl b => cases e; rw [rb_bl h]; exact .base (.bl b)
  | int b => cases e; rw [rb_int h]; exact .base (.int b)
  | str b => cases e; rw [rb_str h]; exact .base (.str b)
  | lst b => cases e; obtain ⟨a, vs, rfl, h1, h2⟩ := h; exact .base (.lst h1)
  | dic b =>
    cases e
    obtain ⟨a, vs, rfl, h1, h2⟩ := h
    exact .base (.dK h1)
  | tup b =>
    cases e
    obtain ⟨a, vs, rfl, h1, h2, hp⟩ := rb_tup h
    rcases ex.le.sqT h1 with (h1 | ⟨o, h1⟩) | ⟨o, its, n, h1, h2, _⟩
    · exact .base (.tup h1)
    · exact .fTuple h1
    · exact .kTuple h1 h2
  | obj c fs => cases e
  | scr ns => cases e
  | dicF ns => cases e
theorem isAny_kit {K : PySem.W.Frag} {t : String} : ∀ {ns : List String} {b : Bool}, isAny t ns = some b → PySem.W.kitAny K (.type t) (ns.map Value.type) = some b
  | [], b, e => by cases e; exact kitAny_nil
  | n :: ns, b, e => by
    unfold isAny at e
    obtain ⟨c, e1, e⟩ := Option.bind_eq_some_iff.mp e
    refine kitAny_cons (kit_ty e1) (fun hc => ?_) (fun hc => ?_)
    · subst hc; exact isAny_kit (by simpa using e)
    · subst hc; simpa using e.symm
def tTys : List String → TA
  | [] => tNil
  | n :: ns => tCons (tC (.ty n)) (tTys ns)
theorem tTys_run : ∀ (ns : List String) (σ : L2.St) (H : Hp) (Q : List V → Hp → Prop), Q (ns.map V.ty) H → tTys ns σ H Q
  | [], _, _, _, h => h
  | n :: ns, σ, H, Q, h => tTys_run ns σ H (fun xs H2 => Q (.ty n :: xs) H2) h
theorem dx_isi {te : TE} {f : Ev} (n : String) (h : DX K te f) : DX K (tCB (rIsi K) (tCons te (tCons (tC (.ty n)) tNil))) (sUn (isiO [n]) f) := by
  intro F σ H ρ w ρ' Q r0 e k
  obtain ⟨⟨w1, ρ1⟩, e1, e⟩ := Option.bind_eq_some_iff.mp e
  obtain ⟨a, e3, e⟩ := Option.bind_eq_some_iff.mp e
  obtain ⟨w3, e5, e⟩ := Option.map_eq_some_iff.mp e
  cases e
  obtain ⟨t, e6, e5⟩ := Option.bind_eq_some_iff.mp e5
  obtain ⟨b, e7, e5⟩ := Option.map_eq_some_iff.mp e5
  cases e5
  refine h F σ H ρ w1 _ _ r0 e1 fun x F1 H1 r1 s1 o1 => ?_
  refine ⟨x, .ty n, .type t, .type n, b, rfl, .ty n, rb_ty r1.ex (r1.rd o1 e3) e6, ?_, k _ F1 H1 r1 s1 (.bl b)⟩
  unfold isAny at e7
  obtain ⟨c, e8, e7⟩ := Option.bind_eq_some_iff.mp e7
  have : c = b := by cases c <;> simpa [isAny] using e7
  subst this
  exact kit_ty e8
theorem dx_isiT {te : TE} {f : Ev} (ns : List String) (hn : ns.length ≤ 1000) (h : DX K te f) : DX K (tCB (rIsiT K) (tCons te (tCons (tTup (tTys ns)) tNil))) (sUn (isiO ns) f) := by
  intro F σ H ρ w ρ' Q r0 e k
  obtain ⟨⟨w1, ρ1⟩, e1, e⟩ := Option.bind_eq_some_iff.mp e
  obtain ⟨a, e3, e⟩ := Option.bind_eq_some_iff.mp e
  obtain ⟨w3, e5, e⟩ := Option.map_eq_some_iff.mp e
  cases e
  obtain ⟨t, e6, e5⟩ := Option.bind_eq_some_iff.mp e5
  obtain ⟨b, e7, e5⟩ := Option.map_eq_some_iff.mp e5
  cases e5
  refine h F σ H ρ w1 _ _ r0 e1 fun x F1 H1 r1 s1 o1 => ?_
  refine tTys_run ns σ H1 _ ⟨by rw [List.length_map]; exact szl (by omega), fun p hp => ?_⟩
  have z := r1.newOwn (o := .tup (ns.map V.ty)) hp
  have o2 := o1.move z.2.1
  have hty := rb_ty z.1.ex (z.1.rd o2 e3) e6
  refine ⟨x, p, ns.map V.ty, .type t, ns.map Value.type, b, rfl, upd_same, ?_, hty, isAny_kit e7, k _ F1 _ z.1 (s1.trans z.2.1) (.bl b)⟩
  have : ∀ l : List String, Paired ClsV (l.map V.ty) (l.map Value.type) := fun l => by
    induction l with
    | nil => exact .nil
    | cons n l ih => exact .cons (.ty n) ih
  exact this ns
/-! ### built-ins with one argument -/
def lenD : D → Option Opd
  | .lst ds => some (.val (.int ds.length))
  | .tup ds => some (.val (.int ds.length))
  | .str x => if x.length ≤ 1000000 then some (.val (.int x.length)) else none
  | _ => none
theorem ud_len : UnD K (fun x H Q => ∃ y n, [x] = [y] ∧ LenV K y H n ∧ Q (.int n) H) lenD := by
  intro F σ H ρ x dx w Q r0 hx e k
  cases dx <;> try (cases e; done)
  · dsimp only [lenD] at e
    split at e
    · rename_i hz
      cases e
      rw [rb_str hx]
      exact ⟨_, _, rfl, ⟨szl hz, rfl⟩, k.flat r0 (.int _)⟩
    · cases e
  · cases e
    obtain ⟨a, vs, rfl, h1, h2⟩ := hx
    refine ⟨_, _, rfl, .inl ⟨vs, SqL.of h1, rfl⟩, ?_⟩
    rw [h2.length]; exact k.flat r0 (.int _)
  · cases e
    obtain ⟨a, vs, rfl, h1, h2, hp⟩ := rb_tup hx
    refine ⟨_, _, rfl, .inr ⟨vs, r0.ex.le.sqT h1, rfl⟩, ?_⟩
    rw [h2.length]; exact k.flat r0 (.int _)
def absD : D → Option Opd
  | .int i => some (.val (.int (if i < 0 then -i else i)))
  | _ => none
theorem ud_abs : UnD K (fun x H Q => ∃ i, [x] = [V.int i] ∧ Q (.int (if i < 0 then -i else i)) H) absD := by
  intro F σ H ρ x dx w Q r0 hx e k
  cases dx <;> try (cases e; done)
  cases e
  rw [rb_int hx]
  exact ⟨_, rfl, k.flat r0 (.int _)⟩
def intD : D → Option Opd
  | .int i => some (.val (.int i))
  | .bl b => some (.val (.int (if b then 1 else 0)))
  | _ => none
theorem ud_int : UnD K (fun x H Q => (∃ i, [x] = [V.int i] ∧ Q (.int i) H) ∨ ∃ k, [x] = [V.bl k] ∧ Q (.int (if k then 1 else 0)) H) intD := by
  intro F σ H ρ x dx w Q r0 hx e k
  cases dx <;> try (cases e; done)
  · cases e
    rw [rb_bl hx]
    exact .inr ⟨_, rfl, k.flat r0 (.int _)⟩
  · cases e
    rw [rb_int hx]
    exact .inl ⟨_, rfl, k.flat r0 (.int _)⟩
def listD : D → Option Opd
  | .lst ds => some (.own (.lst ds))
  | .tup ds => some (.own (.lst ds))
  | _ => none
theorem ud_list : UnD K (fun x H Q => ∃ p ys, [x] = [V.ref p] ∧ (SqL K H p ys ∨ SqT K H p ys) ∧ ∀ l, H l = none → Q (.ref l) (upd H l (.lst ys))) listD := by
  intro F σ H ρ x dx w Q r0 hx e k
  cases dx <;> try (cases e; done)
  · cases e
    obtain ⟨a, vs, rfl, h1, h2⟩ := hx
    exact ⟨a, vs, rfl, .inl (SqL.of h1), fun l hl => k.newL r0 hl h2⟩
  · cases e
    obtain ⟨a, vs, rfl, h1, h2, hp⟩ := rb_tup hx
    exact ⟨a, vs, rfl, .inr (r0.ex.le.sqT h1), fun l hl => k.newL r0 hl h2⟩
def tupleD : D → Option Opd
  | .lst ds => some (.val (.tup ds))
  | .tup ds => some (.val (.tup ds))
  | _ => none
/-- tuple(xs): a new tuple of a list, its object told; a tuple itself -/
def rTupF (K : PySem.W.Frag) : List V → Hp → VK → Prop := fun xs H Q => ∃ p ys, xs = [.ref p] ∧ ((SqL K H p ys ∧ ∀ l o, H l = none → o.dict = none → Q (.ref l) (upd H l (.frz o (.tup ys)))) ∨ (SqT K H p ys ∧ Q (.ref p) H))
theorem cr_tupF {X : Cx} : CallR X (.type "tuple") (rTupF X.K) := by
  rintro pins s σ H xs us Q I r ⟨p, ys, rfl, hl | ht⟩
  all_goals
    obtain ⟨u, rfl, rx⟩ := vals1 r
    cases rx
  · obtain ⟨its, vs, pl, hz⟩ := I.list hl.1
    have n := vs.length
    refine call_tuple_list pl.isList (fun h' kp => ?_) (by rw [List.size_toArray, ← n]; exact hz)
    have I1 := I.kept (t' := s.toks) kp
    have new := Heap.get?_push_size (h := h') (o := { cls := .type "tuple", data := .seq its.toArray }) rfl
    exact ⟨.ref h'.objs.size, _, I1.laid (o := .frz _ (.tup ys)) (t' := s.toks) (fun _ _ => Heap.get?_push_of_some _) (Nat.le_refl _) ⟨new, hz, its, vs, _, new, rfl, _, rfl⟩, rfl, hl.2 _ _ (I1.hok.fresh (Nat.le_refl _)) rfl⟩
  · obtain ⟨its, vs, pl, hz⟩ := I.tuple ht.1
    exact call_tuple_same pl ⟨.ref p, H, I, rfl, ht.2⟩
theorem ud_tuple : UnD K (fun x => rTupF K [x]) tupleD := by
  intro F σ H ρ x dx w Q r0 hx e k
  cases dx <;> try (cases e; done)
  · cases e
    obtain ⟨a, vs, rfl, h1, h2⟩ := hx
    exact ⟨a, vs, rfl, .inl ⟨SqL.of h1, fun l o hl ho => k.newF r0 hl ho h2⟩⟩
  · cases e
    obtain ⟨a, vs, rfl, h1, h2, hp⟩ := rb_tup hx
    exact ⟨a, vs, rfl, .inr ⟨r0.ex.le.sqT h1, k.flat r0 (.tup h1 hp h2)⟩⟩
def bools : List D → Option (List Bool)
  | [] => some []
  | .bl b :: ds => (bools ds).map fun l => b :: l
  | _ => none
theorem bools_rep {F : Hp} : ∀ {vs : List V} {ds : List D} {bs : List Bool}, Reps K F vs ds → bools ds = some bs → vs = bs.map V.bl
  | _, _, _, .nil, e => by cases e; rfl
  | _, _, _, .cons (d := d) h r, e => by
    cases d <;> try (cases e; done)
    unfold bools at e
    obtain ⟨l, e1, e⟩ := Option.map_eq_some_iff.mp e
    cases e
    cases h
    rw [bools_rep r e1]; rfl
def allD : D → Option Opd
  | .lst ds => (bools ds).map fun bs => .val (.bl (bs.all id))
  | _ => none
def anyD : D → Option Opd
  | .lst ds => (bools ds).map fun bs => .val (.bl (bs.any id))
  | _ => none
theorem ud_all : UnD K (fun x => rAll K [x]) allD := by
  intro F σ H ρ x dx w Q r0 hx e k
  cases dx <;> try (cases e; done)
  obtain ⟨bs, e1, e⟩ := Option.map_eq_some_iff.mp e
  cases e
  obtain ⟨a, vs, rfl, h1, h2⟩ := hx
  refine ⟨a, bs, rfl, ?_, k.flat r0 (.bl _)⟩
  rw [← bools_rep h2 e1]; exact SqL.of h1
theorem ud_any : UnD K (fun x => rAny K [x]) anyD := by
  intro F σ H ρ x dx w Q r0 hx e k
  cases dx <;> try (cases e; done)
  obtain ⟨bs, e1, e⟩ := Option.map_eq_some_iff.mp e
  cases e
  obtain ⟨a, vs, rfl, h1, h2⟩ := hx
  refine ⟨a, bs, rfl, ?_, k.flat r0 (.bl _)⟩
  rw [← bools_rep h2 e1]; exact SqL.of h1
/-! ### what is walked -/
def seqOf : D → Option (List D)
  | .lst ds => some ds
  | .tup ds => some ds
  | _ => none
def iSeq (K : PySem.W.Frag) (tl : TE) : TI := fun σ H R => tl σ H fun x H1 => ∃ a, x = .ref a ∧ ((∃ xs, SqL K H1 a xs ∧ R (Itl K a) H1) ∨ ∃ xs, SqT K H1 a xs ∧ R (Itt K a) H1)
/-- an iterator record laid at the heap's end is one that may be walked -/
theorem pie_laid {X : Cx} {pins : List (Addr × Obj)} {σ : L2.St} {H : Hp} {s : Shared} {tg : Expr} {J : It} {R : It → Hp → Prop} {ob : Obj} {tn : Nat → Heap → Prop} (I : Inv X pins σ H s)
    (T : Turn X.prog X.w X.K tg J [s.heap.objs.size] s.heap.objs.size tn) (st : tn 0 (s.heap.push ob)) (q : R J H) : PIE X pins σ tg R (.ref s.heap.objs.size) { s with heap := s.heap.push ob } := by
  have new : H s.heap.objs.size = none := I.hok.fresh (Nat.le_refl _)
  have stays := I.kept (h' := s.heap.push ob) (t' := s.toks) fun _ _ e => Heap.get?_push_of_some _ e
  refine ⟨_, _, tn, J, H, rfl, stays, T, st, ?_, q⟩
  intro c hc
  rw [List.mem_singleton.mp hc]
  exact I.fpOk (Nat.le_refl _) new
theorem pi_seq {X : Cx} {tg l : Expr} {tl : TE} (hl : PE X l tl) : PI X tg l (iSeq X.K tl) where
  run := fun pins s σ H R I h => thn (hl.run pins s σ H _ I h) fun v s1 hv => by
    obtain ⟨x, H1, I1, rx, a, rfl, alt⟩ := hv
    obtain rfl : v = Value.ref a := rx
    cases alt with
    | inl hL =>
      obtain ⟨xs, hq, q⟩ := hL
      obtain ⟨its, _, pl, _⟩ := I1.list hq
      exact wpAny_pyIter_list pl.isList (pie_laid I1 (turn_list a _) ⟨_, Heap.get?_push_size _ rfl, rfl, rfl⟩ q)
    | inr hT =>
      obtain ⟨xs, hq, q⟩ := hT
      obtain ⟨its, _, pt, _⟩ := I1.tuple hq
      exact wpAny_pyIter_tuple (items := its.toArray) pt (pie_laid I1 (turn_tuple a _) ⟨_, Heap.get?_push_size _ rfl, rfl, rfl⟩ q)
def cRel (f : Ev) : Src := fun ρ => (f ρ).bind fun p => (rel p.2 p.1).bind fun q => (seqOf q.1).map fun ds => (ds, q.2)
def cPl (i : Nat) : Src := fun ρ => ((cur ρ i).bind seqOf).map fun ds => (ds, ρ)
/-- a list or tuple that stays, walked -/
theorem it_list {σ : L2.St} {ρ : En} {F H : Hp} {a : Addr} {vs : List V} {ds : List D} (h : Reps K F vs ds) (hs : ∀ σ' ρ' F' H', R K F' σ' H' ρ' → Step σ ρ F H σ' ρ' F' H' → SqL K H' a vs) : ItD K σ ρ F H (Itl K a) ds := by
  intro σ' ρ' F' H' r s
  have q := hs σ' ρ' F' H' r s
  have hl := h.length
  refine ⟨fun i d hd => ?_, ⟨vs, q, by rw [hl]; exact Nat.le_refl _⟩⟩
  obtain ⟨v, h1, h2⟩ := h.get hd
  refine ⟨⟨vs, v, q, h1⟩, fun x H'' hy => ?_⟩
  obtain ⟨rfl, hy⟩ := hy
  have e := hy vs q
  rw [h1] at e; cases e
  exact ⟨F', r, Step.refl _ _ _ _, h2.mono s.le⟩
theorem it_tup {σ : L2.St} {ρ : En} {F H : Hp} {a : Addr} {vs : List V} {ds : List D} (h : Reps K F vs ds) (hs : SqT K F a vs) : ItD K σ ρ F H (Itt K a) ds := by
  intro σ' ρ' F' H' r s
  have q := r.ex.le.sqT (s.le.sqT hs)
  have hl := h.length
  refine ⟨fun i d hd => ?_, ⟨vs, q, by rw [hl]; exact Nat.le_refl _⟩⟩
  obtain ⟨v, h1, h2⟩ := h.get hd
  refine ⟨⟨vs, v, q, h1⟩, fun x H'' hy => ?_⟩
  obtain ⟨rfl, hy⟩ := hy
  have e := hy vs q
  rw [h1] at e; cases e
  exact ⟨F', r, Step.refl _ _ _ _, h2.mono s.le⟩
theorem di_rel {te : TE} {f : Ev} (h : DX K te f) : DI K (iSeq K te) (cRel f) [] := by
  intro F σ H ρ ds ρ' Q r0 e k
  obtain ⟨⟨w1, ρ1⟩, e1, e⟩ := Option.bind_eq_some_iff.mp e
  obtain ⟨⟨d, ρ2⟩, e2, e⟩ := Option.bind_eq_some_iff.mp e
  obtain ⟨es, e3, e⟩ := Option.map_eq_some_iff.mp e
  cases e
  refine h F σ H ρ w1 ρ1 _ r0 e1 fun v F1 H1 r1 s1 o1 => ?_
  obtain ⟨F2, r2, s2, rep⟩ := r1.rel s1 o1 e2
  cases rep with
  | lst hl hr =>
    cases e3
    exact ⟨_, rfl, .inl ⟨_, SqL.of (r2.ex _ _ hl), k _ F2 H1 r2 s2 (it_list hr fun σ' ρ' F' H' r s => SqL.of (r.ex _ _ (s.le.l _ _ hl)))⟩⟩
  | tup hl _ hr =>
    cases e3
    exact ⟨_, rfl, .inr ⟨_, r2.ex.le.sqT hl, k _ F2 H1 r2 s2 (it_tup hr hl)⟩⟩
  | _ => cases e3
theorem mask_one {ρ : En} {i : Nat} {e : Ent} {j : Nat} (h : (mask [i] ρ)[j]? = some (some e)) : j ≠ i ∧ ρ[j]? = some (some e) := by
  obtain ⟨h1, h2⟩ := mask_get h
  exact ⟨fun z => h1 (by simp [z]), h2⟩
theorem di_pl (i : Nat) : DI K (iSeq K (tVar i)) (cPl i) [i] := by
  intro F σ H ρ ds ρ' Q r0 e k
  obtain ⟨es, e1, e⟩ := Option.map_eq_some_iff.mp e
  obtain ⟨d, e2, e1⟩ := Option.bind_eq_some_iff.mp e1
  cases e
  rcases cur_some e2 with q | q
  · obtain ⟨v, h1, rep⟩ := r0.val i d q
    refine ⟨v, h1, ?_⟩
    cases rep with
    | lst hl hr =>
      cases e1
      exact ⟨_, rfl, .inl ⟨_, SqL.of (r0.ex _ _ hl), k _ F H r0 (Step.refl _ _ _ _) (it_list hr fun σ' ρ' F' H' r s => SqL.of (r.ex _ _ (s.le.l _ _ hl)))⟩⟩
    | tup hl _ hr =>
      cases e1
      exact ⟨_, rfl, .inr ⟨_, r0.ex.le.sqT hl, k _ F H r0 (Step.refl _ _ _ _) (it_tup hr hl)⟩⟩
    | _ => cases e1
  · obtain ⟨a, h1, ow⟩ := r0.own i d q
    refine ⟨_, h1, ?_⟩
    cases d <;> try (cases e1; done)
    · cases e1
      obtain ⟨fa, vs, hv, hr⟩ := ow
      refine ⟨a, rfl, .inl ⟨vs, SqL.of hv, k _ F H r0 (Step.refl _ _ _ _) (it_list hr fun σ' ρ' F' H' r s => SqL.of (s.keep a _ hv ?_))⟩⟩
      rintro ⟨j, y, z1, z2⟩
      obtain ⟨z3, z4⟩ := mask_one z1
      exact z3 (r0.sep j i y _ a z4 q z2 h1)
    · exact ow.elim
def cZip (fs : Evs) : Src := fun ρ => (fs ρ).bind fun p => match p.1 with
  | [.lst a, .lst b] => if a.any isPr = false then some (List.zipWith (fun x y => .tup [x, y]) a b, p.2) else none
  | [.tup a, .tup b] => if a.any isPr = false then some (List.zipWith (fun x y => .tup [x, y]) a b, p.2) else none
  | _ => none
/-- a pair made at a turn -/
theorem new_pair {σ : L2.St} {ρ : En} {F H : Hp} {T : Addr} {x y : V} {a b : D} (r : R K F σ H ρ) (hT : H T = none) (h1 : Rep K F x a) (h2 : Rep K F y b) (n : allP [a, b] = false) :
    ∃ F'', R K F'' σ (upd H T (.tup [x, y])) ρ ∧ Step σ ρ F H σ ρ F'' (upd H T (.tup [x, y])) ∧ Rep K F'' (.ref T) (.tup [a, b]) := by
  have z := r.new (o := .tup [x, y]) hT
  have ex : Ex F (upd F T (.tup [x, y])) := Ex.new (r.dom T hT)
  exact ⟨_, z.1, z.2, .tup (SqT.of upd_same) (fun q => by rw [n] at q; cases q) (.cons (h1.mono ex.le) (.cons (h2.mono ex.le) .nil))⟩
theorem zip_get {a b : List D} {i : Nat} {d : D} (h : (List.zipWith (fun x y => D.tup [x, y]) a b)[i]? = some d) : ∃ x y, a[i]? = some x ∧ b[i]? = some y ∧ d = .tup [x, y] := by
  rw [List.getElem?_zipWith] at h
  cases e1 : a[i]? with
  | none => rw [e1] at h; cases h
  | some x =>
    cases e2 : b[i]? with
    | none => rw [e1, e2] at h; cases h
    | some y => rw [e1, e2] at h; cases h; exact ⟨x, y, rfl, rfl, rfl⟩
theorem np_of {a : List D} {i : Nat} {x y : D} (h : a.any isPr = false) (g : a[i]? = some x) : allP [x, y] = false := by
  have q : isPr x = false := by
    have := List.any_eq_false.mp h x (List.mem_of_getElem? g)
    simpa using this
  simp [allP, q]
theorem di_zip {ta : TA} {fs : Evs} (h : DA K ta fs) : DI K (RZ.iZipA K ta) (cZip fs) [] := by
  intro F σ H ρ ds ρ' Q r0 e k
  obtain ⟨⟨es, ρ1⟩, e1, e⟩ := Option.bind_eq_some_iff.mp e
  refine h F σ H ρ es ρ1 _ r0 e1 fun vs F1 H1 r1 s1 reps => ?_
  dsimp only at e
  split at e
  · rename_i a b
    split at e
    rotate_left
    · cases e
    rename_i hz
    cases e
    cases reps with
    | cons p1 p2 =>
      cases p2 with
      | cons p2 p3 =>
        cases p3
        cases p1 with
        | lst hl hr =>
          cases p2 with
          | lst hl2 hr2 =>
            rename_i pa va pb vb
            refine ⟨pa, pb, va, vb, rfl, .inl ⟨SqL.of (r1.ex _ _ hl), SqL.of (r1.ex _ _ hl2), k _ F1 H1 r1 s1 fun σ' ρ' F' H' r s => ?_⟩⟩
            have q1 : SqL K H' pa va := SqL.of (r.ex _ _ (s.le.l _ _ hl))
            have q2 : SqL K H' pb vb := SqL.of (r.ex _ _ (s.le.l _ _ hl2))
            refine ⟨fun i d hd => ?_, ⟨va, vb, q1, q2, ?_⟩⟩
            · obtain ⟨x, y, g1, g2, rfl⟩ := zip_get hd
              obtain ⟨v, g3, g4⟩ := hr.get g1
              obtain ⟨u, g5, g6⟩ := hr2.get g2
              refine ⟨⟨va, vb, v, u, q1, q2, g3, g5⟩, fun z H'' hy => ?_⟩
              obtain ⟨T, x', y', rfl, hT, rfl, hx, hy⟩ := hy
              have e1 := hx va q1
              have e2 := hy vb q2
              rw [g3] at e1; rw [g5] at e2; cases e1; cases e2
              exact new_pair r hT (g4.mono s.le) (g6.mono s.le) (np_of hz g1)
            · rw [List.length_zipWith, hr.length, hr2.length]; omega
  · rename_i a b
    split at e
    rotate_left
    · cases e
    rename_i hz
    cases e
    cases reps with
    | cons p1 p2 =>
      cases p2 with
      | cons p2 p3 =>
        cases p3
        cases p1 with
        | tup hl hq hr =>
          cases p2 with
          | tup hl2 hq2 hr2 =>
            rename_i pa va pb vb
            refine ⟨pa, pb, va, vb, rfl, .inr ⟨r1.ex.le.sqT hl, r1.ex.le.sqT hl2, k _ F1 H1 r1 s1 fun σ' ρ' F' H' r s => ?_⟩⟩
            have q1 : SqT K H' pa va := r.ex.le.sqT (s.le.sqT hl)
            have q2 : SqT K H' pb vb := r.ex.le.sqT (s.le.sqT hl2)
            refine ⟨fun i d hd => ?_, ⟨va, vb, q1, q2, ?_⟩⟩
            · obtain ⟨x, y, g1, g2, rfl⟩ := zip_get hd
              obtain ⟨v, g3, g4⟩ := hr.get g1
              obtain ⟨u, g5, g6⟩ := hr2.get g2
              refine ⟨⟨va, vb, v, u, q1, q2, g3, g5⟩, fun z H'' hy => ?_⟩
              obtain ⟨T, x', y', rfl, hT, rfl, hx, hy⟩ := hy
              have e1 := hx va q1
              have e2 := hy vb q2
              rw [g3] at e1; rw [g5] at e2; cases e1; cases e2
              exact new_pair r hT (g4.mono s.le) (g6.mono s.le) (np_of hz g1)
            · rw [List.length_zipWith, hr.length, hr2.length]; omega
  · cases e
def enumF : Nat → List D → List D
  | _, [] => []
  | n, d :: ds => .tup [.int (n : Nat), d] :: enumF (n + 1) ds
theorem enum_get : ∀ {ds : List D} {n i : Nat} {d : D}, (enumF n ds)[i]? = some d → ∃ x, ds[i]? = some x ∧ d = .tup [.int ((n + i : Nat) : Int), x]
  | [], _, _, _, h => by cases h
  | x :: ds, n, 0, d, h => by cases h; exact ⟨x, rfl, rfl⟩
  | x :: ds, n, i + 1, d, h => by
    obtain ⟨y, h1, h2⟩ := enum_get (ds := ds) (n := n + 1) (i := i) (d := d) (by simpa [enumF] using h)
    exact ⟨y, by simpa using h1, by rw [h2]; congr 3; omega⟩
theorem enum_length : ∀ (ds : List D) (n : Nat), (enumF n ds).length = ds.length
  | [], _ => rfl
  | _ :: ds, n => by unfold enumF; rw [List.length_cons, List.length_cons, enum_length ds (n + 1)]
def cEnum (fs : Evs) : Src := fun ρ => (fs ρ).bind fun p => match p.1 with
  | [.lst a] => some (enumF 0 a, p.2)
  | _ => none
theorem di_enum {ta : TA} {fs : Evs} (h : DA K ta fs) : DI K (iEnum K ta) (cEnum fs) [] := by
  intro F σ H ρ ds ρ' Q r0 e k
  obtain ⟨⟨es, ρ1⟩, e1, e⟩ := Option.bind_eq_some_iff.mp e
  refine h F σ H ρ es ρ1 _ r0 e1 fun vs F1 H1 r1 s1 reps => ?_
  dsimp only at e
  split at e
  · rename_i a
    cases e
    cases reps with
    | cons p1 p2 =>
      cases p2
      cases p1 with
      | lst hl hr =>
        rename_i pa va
        refine ⟨pa, va, rfl, SqL.of (r1.ex _ _ hl), k _ F1 H1 r1 s1 fun σ' ρ' F' H' r s => ?_⟩
        have q1 : SqL K H' pa va := SqL.of (r.ex _ _ (s.le.l _ _ hl))
        refine ⟨fun i d hd => ?_, ⟨va, q1, ?_⟩⟩
        · obtain ⟨x, g1, rfl⟩ := enum_get hd
          obtain ⟨v, g3, g4⟩ := hr.get g1
          refine ⟨⟨va, v, q1, g3⟩, fun z H'' hy => ?_⟩
          obtain ⟨T, x', rfl, hT, rfl, hx⟩ := hy
          have e1 := hx va q1
          rw [g3] at e1; cases e1
          rw [Nat.zero_add]
          exact new_pair r hT (.int _) (g4.mono s.le) rfl
        · rw [enum_length, hr.length]; exact Nat.le_refl _
  · cases e
def rngF (lo : Int) (n : Nat) : List D := (List.range n).map fun i => .int (lo + (i : Nat))
def cRng1 (fs : Evs) : Src := fun ρ => (fs ρ).bind fun p => match p.1 with
  | [.int j] => if -1000000 ≤ j ∧ j ≤ 1000000 then some (rngF 0 j.toNat, p.2) else none
  | _ => none
def cRng2 (fs : Evs) : Src := fun ρ => (fs ρ).bind fun p => match p.1 with
  | [.int i, .int j] => if (-1000000 ≤ i ∧ i ≤ 1000000) ∧ -1000000 ≤ j ∧ j ≤ 1000000 then some (rngF i (j - i).toNat, p.2) else none
  | _ => none
theorem it_rng {σ : L2.St} {ρ : En} {F H : Hp} (lo : Int) (n : Nat) : ItD K σ ρ F H (Itr lo n) (rngF lo n) := by
  intro σ' ρ' F' H' r s
  have hl : (rngF lo n).length = n := by unfold rngF; rw [List.length_map, List.length_range]
  refine ⟨fun i d hd => ?_, by rw [hl]; exact Nat.le_refl n⟩
  have hi : i < n := by rw [← hl]; exact (List.getElem?_eq_some_iff.mp hd).1
  refine ⟨hi, fun x H'' hy => ?_⟩
  obtain ⟨rfl, rfl⟩ := hy
  have : d = .int (lo + i) := by
    unfold rngF at hd
    rw [List.getElem?_map, List.getElem?_range hi] at hd
    cases hd; rfl
  subst this
  exact ⟨F', r, Step.refl _ _ _ _, .int _⟩
theorem di_rng1 {ta : TA} {fs : Evs} (h : DA K ta fs) : DI K (iRng1 ta) (cRng1 fs) [] := by
  intro F σ H ρ ds ρ' Q r0 e k
  obtain ⟨⟨es, ρ1⟩, e1, e⟩ := Option.bind_eq_some_iff.mp e
  refine h F σ H ρ es ρ1 _ r0 e1 fun vs F1 H1 r1 s1 reps => ?_
  dsimp only at e
  split at e
  · split at e
    · rename_i hb
      cases e
      cases reps with
      | cons p1 p2 =>
        cases p2
        cases p1
        exact ⟨_, rfl, by omega, by omega, k _ F1 H1 r1 s1 (it_rng _ _)⟩
    · cases e
  · cases e
theorem di_rng2 {ta : TA} {fs : Evs} (h : DA K ta fs) : DI K (iRng2 ta) (cRng2 fs) [] := by
  intro F σ H ρ ds ρ' Q r0 e k
  obtain ⟨⟨es, ρ1⟩, e1, e⟩ := Option.bind_eq_some_iff.mp e
  refine h F σ H ρ es ρ1 _ r0 e1 fun vs F1 H1 r1 s1 reps => ?_
  dsimp only at e
  split at e
  · split at e
    · rename_i hb
      cases e
      cases reps with
      | cons p1 p2 =>
        cases p2 with
        | cons p2 p3 =>
          cases p3
          cases p1
          cases p2
          exact ⟨_, _, rfl, by omega, k _ F1 H1 r1 s1 (it_rng _ _)⟩
    · cases e
  · cases e
def signs (x : Str) : List D := x.cps.toList.map fun c => .str ⟨#[c]⟩
def cStr (f : Ev) : Src := fun ρ => (f ρ).bind fun p => match rd p.2 p.1 with
  | some (.str x) => some (signs x, p.2)
  | _ => none
theorem di_str {te : TE} {f : Ev} (h : DX K te f) : DI K (iStr te) (cStr f) [] := by
  intro F σ H ρ ds ρ' Q r0 e k
  obtain ⟨⟨w1, ρ1⟩, e1, e⟩ := Option.bind_eq_some_iff.mp e
  dsimp only at e
  split at e
  · rename_i x ex
    cases e
    refine h F σ H ρ w1 _ _ r0 e1 fun v F1 H1 r1 s1 o1 => ⟨x, rb_str (r1.rd o1 ex), k _ F1 H1 r1 s1 fun σ' ρ' F' H' r s => ?_⟩
    have hl : (signs x).length = x.cps.size := by unfold signs; simp
    refine ⟨fun i d hd => ?_, by rw [hl]; exact Nat.le_refl x.cps.size⟩
    have hi : i < x.cps.size := by rw [← hl]; exact (List.getElem?_eq_some_iff.mp hd).1
    refine ⟨hi, fun y H'' hy => ?_⟩
    obtain ⟨rfl, c, hc, rfl⟩ := hy
    have : d = .str ⟨#[c]⟩ := by
      unfold signs at hd
      rw [List.getElem?_map, Array.getElem?_toList, hc] at hd
      cases hd; rfl
    subst this
    exact ⟨F', r, Step.refl _ _ _ _, .str _⟩
  · cases e
end
end Bl
namespace Bl
open PySem PySem.Spec PyProof.Rows L2 Evl
section
variable {K : PySem.W.Frag} {as : List Nat}
theorem R.mut {F H : Hp} {σ : L2.St} {ρ : En} {i : Nat} {d d' : D} {o : HO} {a : Addr} (r : R K F σ H ρ) (h : ρ[i]? = some (some (.o d))) (ha : σ[i]? = some (some (.ref a))) (hr : Own K F (upd H a o) a d') :
    R K F σ (upd H a o) (ρ.set i (some (.o d'))) ∧ Step σ ρ F H σ (ρ.set i (some (.o d'))) F (upd H a o) := by
  obtain ⟨b, hb, ow⟩ := r.own i _ h
  have e : some (some (V.ref a)) = some (some (V.ref b)) := ha.symm.trans hb
  cases e
  have fa := ow.free
  have hs : ∀ c, Owned σ (ρ.set i (some (.o d'))) c → Owned σ ρ c := by
    rintro c ⟨j, y, z1, z2⟩
    rcases getElem?_set_some z1 with ⟨hj, w⟩ | ⟨hj, w⟩
    · subst hj; exact ⟨j, _, h, z2⟩
    · exact ⟨j, y, w, z2⟩
  have isO : Owned σ ρ a := ⟨i, _, h, ha⟩
  refine ⟨⟨fun b u z => ?_, fun b z => ?_, by simpa using r.len, fun j y z => ?_, fun j y z => ?_, fun j k y y' b z z' e e' => ?_⟩, ⟨Le.refl _, fun b u z n => ?_, fun b z => ?_, fun _ _ _ => rfl, fun c hc => .inl (hs c hc)⟩⟩
  · rw [upd_ne (fun q => by subst q; rw [fa] at z; cases z)]; exact r.ex b u z
  · by_cases q : b = a
    · subst q; rw [upd_same] at z; cases z
    · rw [upd_ne q] at z; exact r.dom b z
  · rcases getElem?_set_some z with ⟨hj, w⟩ | ⟨hj, w⟩
    · cases w
    · exact r.val j y w
  · rcases getElem?_set_some z with ⟨hj, w⟩ | ⟨hj, w⟩
    · cases w; subst hj; exact ⟨a, ha, hr⟩
    · obtain ⟨b, h1, h2⟩ := r.own j y w
      refine ⟨b, h1, h2.move (Le.refl _) rfl (upd_ne fun q => ?_)⟩
      subst q; exact hj (r.sep j i y _ b w h h1 ha)
  · have old : ∀ {j : Nat} {y : D}, (ρ.set i (some (.o d')))[j]? = some (some (.o y)) → ∃ y', ρ[j]? = some (some (.o y')) := fun {j y} z => by
      rcases getElem?_set_some z with ⟨hj, w⟩ | ⟨hj, w⟩
      · subst hj; exact ⟨_, h⟩
      · exact ⟨_, w⟩
    obtain ⟨_, q⟩ := old z
    obtain ⟨_, q'⟩ := old z'
    exact r.sep j k _ _ b q q' e e'
  · rw [upd_ne (fun q => by subst q; exact n isO)]; exact z
  · by_cases q : b = a
    · subst q; rw [upd_same] at z; cases z
    · rw [upd_ne q] at z; exact z
/-- an own list's items are exchanged -/
theorem R.mutl {F H : Hp} {σ : L2.St} {ρ : En} {i : Nat} {d : D} {ds' : List D} {vs' : List V} {a : Addr} (r : R K F σ H ρ) (h : ρ[i]? = some (some (.o d))) (ha : σ[i]? = some (some (.ref a))) (hr : Reps K F vs' ds') :
    R K F σ (upd H a (.lst vs')) (ρ.set i (some (.o (.lst ds')))) ∧ Step σ ρ F H σ (ρ.set i (some (.o (.lst ds')))) F (upd H a (.lst vs')) := by
  obtain ⟨b, hb, ow⟩ := r.own i _ h
  have e : some (some (V.ref a)) = some (some (V.ref b)) := ha.symm.trans hb
  cases e
  exact r.mut h ha ⟨ow.free, vs', upd_same, hr⟩
theorem R.mutd {F H : Hp} {σ : L2.St} {ρ : En} {i : Nat} {d : D} {ds' : List (Key × D)} {vs' : List (Key × V)} {a : Addr} (r : R K F σ H ρ) (h : ρ[i]? = some (some (.o d))) (ha : σ[i]? = some (some (.ref a))) (hr : RepKs K F vs' ds') :
    R K F σ (upd H a (.dK vs')) (ρ.set i (some (.o (.dic ds')))) ∧ Step σ ρ F H σ (ρ.set i (some (.o (.dic ds')))) F (upd H a (.dK vs')) := by
  obtain ⟨b, hb, ow⟩ := r.own i _ h
  have e : some (some (V.ref a)) = some (some (V.ref b)) := ha.symm.trans hb
  cases e
  exact r.mut h ha ⟨ow.free, vs', upd_same, hr⟩
def ownL (ρ : En) (i : Nat) : Option (List D) := match ρ[i]? with
  | some (some (.o (.lst ds))) => some ds
  | _ => none
def ownD (ρ : En) (i : Nat) : Option (List (Key × D)) := match ρ[i]? with
  | some (some (.o (.dic ds))) => some ds
  | _ => none
theorem ownL_some {ρ : En} {i : Nat} {ds : List D} (h : ownL ρ i = some ds) : ρ[i]? = some (some (.o (.lst ds))) := by
  unfold ownL at h
  split at h
  · rename_i q; cases h; exact q
  · cases h
theorem ownD_some {ρ : En} {i : Nat} {ds : List (Key × D)} (h : ownD ρ i = some ds) : ρ[i]? = some (some (.o (.dic ds))) := by
  unfold ownD at h
  split at h
  · rename_i q; cases h; exact q
  · cases h
/-- x.append(e) -/
def sApp (i : Nat) (f : Ev) : Ev := fun ρ => (ownL ρ i).bind fun _ => (f ρ).bind fun p => (rel p.2 p.1).bind fun q => (ownL q.2 i).bind fun ds =>
  if ds.length < 1000000 then some (.val .non, q.2.set i (some (.o (.lst (ds ++ [q.1]))))) else none
theorem dx_app {te : TE} {f : Ev} (i : Nat) (h : DX K te f) : DX K (tBM K "list" rAppend (tVar i) (tCons te tNil)) (sApp i f) := by
  intro F σ H ρ w ρ' Q r0 e k
  obtain ⟨d0, e0, e⟩ := Option.bind_eq_some_iff.mp e
  obtain ⟨⟨w1, ρ1⟩, e1, e⟩ := Option.bind_eq_some_iff.mp e
  obtain ⟨⟨d, ρ2⟩, e2, e⟩ := Option.bind_eq_some_iff.mp e
  obtain ⟨ds, e3, e⟩ := Option.bind_eq_some_iff.mp e
  dsimp only at e
  split at e
  · rename_i hz
    cases e
    obtain ⟨a, ha, ow⟩ := r0.own i _ (ownL_some e0)
    obtain ⟨_, vs0, hv0, _⟩ := ow
    refine ⟨_, ha, .inl ⟨rfl, vs0, SqL.of hv0⟩, ?_⟩
    refine h F σ H ρ w1 ρ1 _ r0 e1 fun v F1 H1 r1 s1 o1 => ?_
    obtain ⟨F2, r2, s2, rep⟩ := r1.rel s1 o1 e2
    have q := ownL_some e3
    obtain ⟨b, hb, ow⟩ := r2.own i _ q
    have e : some (some (V.ref a)) = some (some (V.ref b)) := ha.symm.trans hb
    cases e
    obtain ⟨fa, vs, hv, hr⟩ := ow
    have z := r2.mutl q ha (hr.append (.cons rep .nil))
    exact ⟨a, vs, v, rfl, rfl, hv, by rw [hr.length]; exact szlt hz, k _ F2 _ z.1 (s2.trans z.2) .non⟩
  · cases e
/-- x.pop(e) -/
def sPopAt (i : Nat) (f : Ev) : Ev := fun ρ => (ownL ρ i).bind fun _ => (f ρ).bind fun p => (rel p.2 p.1).bind fun q => match q.1 with
  | .int j => (ownL q.2 i).bind fun ds => if -1000000 ≤ j ∧ j ≤ 1000000 then (seqIndex? j ds.length).bind fun k => (ds[k]?).map fun y => (.val y, q.2.set i (some (.o (.lst (ds.eraseIdx k))))) else none
  | _ => none
theorem dx_popAt {te : TE} {f : Ev} (i : Nat) (h : DX K te f) : DX K (tBM K "list" rPopAt (tVar i) (tCons te tNil)) (sPopAt i f) := by
  intro F σ H ρ w ρ' Q r0 e k
  obtain ⟨d0, e0, e⟩ := Option.bind_eq_some_iff.mp e
  obtain ⟨⟨w1, ρ1⟩, e1, e⟩ := Option.bind_eq_some_iff.mp e
  obtain ⟨⟨d, ρ2⟩, e2, e⟩ := Option.bind_eq_some_iff.mp e
  dsimp only at e
  cases d <;> try (cases e; done)
  rename_i j
  obtain ⟨ds, e3, e⟩ := Option.bind_eq_some_iff.mp e
  split at e
  · rename_i hz
    obtain ⟨n, e4, e⟩ := Option.bind_eq_some_iff.mp e
    obtain ⟨y, e5, e⟩ := Option.map_eq_some_iff.mp e
    cases e
    obtain ⟨a, ha, ow⟩ := r0.own i _ (ownL_some e0)
    obtain ⟨_, vs0, hv0, _⟩ := ow
    refine ⟨_, ha, .inl ⟨rfl, vs0, SqL.of hv0⟩, ?_⟩
    refine h F σ H ρ w1 ρ1 _ r0 e1 fun v F1 H1 r1 s1 o1 => ?_
    obtain ⟨F2, r2, s2, rep⟩ := r1.rel s1 o1 e2
    cases rep
    have q := ownL_some e3
    obtain ⟨b, hb, ow⟩ := r2.own i _ q
    have e : some (some (V.ref a)) = some (some (V.ref b)) := ha.symm.trans hb
    cases e
    obtain ⟨fa, vs, hv, hr⟩ := ow
    obtain ⟨u, hu, ru⟩ := hr.get e5
    have z := r2.mutl q ha (hr.eraseIdx n)
    exact ⟨a, vs, j, n, u, rfl, rfl, hv, by omega, by omega, by rw [hr.length]; exact e4, hu, k _ F2 _ z.1 (s2.trans z.2) ru⟩
  · cases e
/-- x[k] = e -/
def sSetIx (i : Nat) (fk f : Ev) : Sv := fun ρ => (f ρ).bind fun p => (rel p.2 p.1).bind fun q => (ownL q.2 i).bind fun _ => (fk q.2).bind fun z => match rd z.2 z.1 with
  | some (.int j) => (ownL z.2 i).bind fun ds => (ixN ds.length j).map fun n => .nx (z.2.set i (some (.o (.lst (ds.set n q.1)))))
  | _ => none
theorem ds_setIx {te tk : TE} {f fk : Ev} (i : Nat) (hk : DX K tk fk) (h : DX K te f) : DS K as (tAsg te (gSub (tVar i) tk rSetL)) (sSetIx i fk f) := by
  intro F σ H ρ out D r0 e k
  obtain ⟨⟨w1, ρ1⟩, e1, e⟩ := Option.bind_eq_some_iff.mp e
  obtain ⟨⟨d, ρ2⟩, e2, e⟩ := Option.bind_eq_some_iff.mp e
  obtain ⟨d0, e0, e⟩ := Option.bind_eq_some_iff.mp e
  obtain ⟨⟨w3, ρ3⟩, e3, e⟩ := Option.bind_eq_some_iff.mp e
  dsimp only at e
  split at e
  · rename_i j ej
    obtain ⟨ds, e4, e⟩ := Option.bind_eq_some_iff.mp e
    obtain ⟨n, e5, e⟩ := Option.map_eq_some_iff.mp e
    cases e
    refine h F σ H ρ w1 ρ1 _ r0 e1 fun v F1 H1 r1 s1 o1 => ?_
    obtain ⟨F2, r2, s2, rep⟩ := r1.rel s1 o1 e2
    obtain ⟨a, ha, _⟩ := r2.own i _ (ownL_some e0)
    refine ⟨_, ha, hk F2 σ H1 ρ2 w3 ρ3 _ r2 e3 fun x F3 H3 r3 s3 o3 => ?_⟩
    have q := ownL_some e4
    obtain ⟨b, hb, ow⟩ := r3.own i _ q
    have e : some (some (V.ref a)) = some (some (V.ref b)) := ha.symm.trans hb
    cases e
    obtain ⟨fa, vs, hv, hr⟩ := ow
    have z := r3.mutl q ha (hr.set n (rep.mono s3.le))
    exact ⟨a, vs, j, n, rfl, rb_int (r3.rd o3 ej), hv, by rw [hr.length]; exact e5, k _ F3 _ z.1 ((s2.trans s3).trans z.2) (Kp.refl _ _)⟩
  · cases e
/-! ### dicts: stored into, made -/
theorem ks_any {F : Hp} {k : Key} : ∀ {vs : List (Key × V)} {ds : List (Key × D)}, RepKs K F vs ds → vs.any (fun kv => decide (kv.1 = k)) = ds.any (fun kv => decide (kv.1 = k))
  | _, _, .nil => rfl
  | _, _, .cons _ r => by simp only [List.any_cons, ks_any r]
theorem ks_append {F : Hp} : ∀ {vs us : List (Key × V)} {ds es : List (Key × D)}, RepKs K F vs ds → RepKs K F us es → RepKs K F (vs ++ us) (ds ++ es)
  | _, _, _, _, .nil, s => s
  | _, _, _, _, .cons h r, s => .cons h (ks_append r s)
theorem ks_map {F : Hp} {k : Key} {v : V} {d : D} (h : Rep K F v d) : ∀ {vs : List (Key × V)} {ds : List (Key × D)}, RepKs K F vs ds →
    RepKs K F (vs.map fun kv => if kv.1 = k then (kv.1, v) else kv) (ds.map fun kv => if kv.1 = k then (kv.1, d) else kv)
  | _, _, .nil => .nil
  | _, _, .cons (k := j) q r => by
    rw [List.map_cons, List.map_cons]
    by_cases e : j = k
    · simp only [e, if_true]; exact .cons h (ks_map h r)
    · simp only [if_neg e]; exact .cons q (ks_map h r)
theorem putD_rep {F : Hp} {k : Key} {v : V} {d : D} (h : Rep K F v d) {vs : List (Key × V)} {ds : List (Key × D)} (r : RepKs K F vs ds) : RepKs K F (putK vs k v) (putD ds k d) := by
  unfold putK putD
  rw [ks_any r]
  split
  · exact ks_map h r
  · exact ks_append r (.cons h .nil)
def mergeD (kvs more : List (Key × D)) : List (Key × D) := more.foldl (fun acc kv => putD acc kv.1 kv.2) kvs
theorem mergeD_rep {F : Hp} : ∀ {us : List (Key × V)} {es : List (Key × D)}, RepKs K F us es → ∀ {vs : List (Key × V)} {ds : List (Key × D)}, RepKs K F vs ds → RepKs K F (mergeK vs us) (mergeD ds es)
  | _, _, .nil, _, _, r => r
  | _, _, .cons h t, _, _, r => mergeD_rep t (putD_rep h r)
/-! ### the call of a def -/
/-- what a def hands back; H: the heap at the call -/
def RP (K : PySem.W.Frag) (F' H' H : Hp) (v : V) : Opd → Prop
  | .val d => Rep K F' v d
  | .own d => ∃ a, v = .ref a ∧ H a = none ∧ Own K F' H' a d
  | .pl _ => False
/-- a def that changes nothing: m tells what it hands back -/
def spP (K : PySem.W.Frag) (n : Nat) (m : List D → Option Opd) : Sp := fun vs H Q _ => ∃ F ds w, Ex F H ∧ (∀ a, H a = none → F a = none) ∧ Reps K F vs ds ∧ vs.length = n ∧ m ds = some w ∧
  ∀ v F' H', Ex H H' → Ex F' H' → (∀ a, H' a = none → F' a = none) → Le F F' → (∀ a, H a ≠ none → F' a = F a) → RP K F' H' H v w → Q v H'
/-- a def that changes the list (dict) of its first parameter -/
def spI (K : PySem.W.Frag) (n : Nat) (m : D → List D → Option (Opd × D)) : Sp := fun vs H Q _ => ∃ a us F d ds w d', vs = .ref a :: us ∧ us.length = n ∧ Ex F H ∧ (∀ a, H a = none → F a = none) ∧ Own K F H a d ∧ Reps K F us ds ∧ m d ds = some (w, d') ∧
  ∀ v F' H', (∀ b o, b ≠ a → H b = some o → H' b = some o) → Ex F' H' → (∀ a, H' a = none → F' a = none) → Le F F' → (∀ b, H b ≠ none → F' b = F b) → Own K F' H' a d' → RP K F' H' H v w → Q v H'
def startE (n : Nat) (ds : List D) : En := ds.map (fun d => some (.v d)) ++ List.replicate (n - ds.length) none
def runP (n : Nat) (f : Sv) (ds : List D) : Option Opd := match f (startE n ds) with
  | some (.rt w _) => some w
  | some (.nx _) => some (.val .non)
  | _ => none
def startI (n : Nat) (d : D) (ds : List D) : En := some (.o d) :: (ds.map (fun d => some (.v d)) ++ List.replicate (n - (ds.length + 1)) none)
def runI (n : Nat) (f : Sv) (d : D) (ds : List D) : Option (Opd × D) := match f (startI n d ds) with
  | some (.rt w ρ) => (match (ρ[0]? : Option (Option Ent)) with
    | some (some (.o d')) => some (w, d')
    | _ => none)
  | some (.nx ρ) => (match (ρ[0]? : Option (Option Ent)) with
    | some (some (.o d')) => some (.val .non, d')
    | _ => none)
  | _ => none
theorem start_val {F : Hp} : ∀ {vs : List V} {ds : List D}, Reps K F vs ds → ∀ (i : Nat) (d : D) (m : Nat), (ds.map (fun d => some (Ent.v d)) ++ List.replicate m none)[i]? = some (some (.v d)) → ∃ v, (vs.map some ++ List.replicate m none)[i]? = some (some v) ∧ Rep K F v d
  | _, _, .nil, i, d, m, h => by
    simp only [List.map_nil, List.nil_append] at h
    rw [List.getElem?_replicate] at h
    split at h <;> cases h
  | _, _, .cons q r, 0, d, m, h => by cases h; exact ⟨_, rfl, q⟩
  | _, _, .cons q r, i + 1, d, m, h => by
    obtain ⟨v, h1, h2⟩ := start_val r i d m (by simpa using h)
    exact ⟨v, by simpa using h1, h2⟩
theorem start_own : ∀ {ds : List D} {i : Nat} {d : D} {m : Nat}, (ds.map (fun d => some (Ent.v d)) ++ List.replicate m none)[i]? ≠ some (some (.o d))
  | [], i, d, m, h => by
    simp only [List.map_nil, List.nil_append] at h
    rw [List.getElem?_replicate] at h
    split at h <;> cases h
  | _ :: ds, 0, d, m, h => by cases h
  | _ :: ds, i + 1, d, m, h => start_own (ds := ds) (i := i) (d := d) (m := m) (by simpa using h)
theorem R.beg {F H : Hp} {vs : List V} {ds : List D} {N : List Str} (ex : Ex F H) (dom : ∀ a, H a = none → F a = none) (h : Reps K F vs ds) : R K F (start N vs) H (startE N.length ds) := by
  unfold L2.start startE
  refine ⟨ex, dom, by simp [h.length], fun i d q => ?_, fun i d q => absurd q start_own, fun i j d e a q => absurd q start_own⟩
  rw [← h.length] at q
  exact start_val h i d _ q
/-- a body that is a DS, as a promise -/
theorem fn_P {N : List Str} {n : Nat} {t : TS} {f : Sv} {vs : List V} {H : Hp} {Q : VK} {E : XK} (h : DS K as t f) (hs : spP K n (runP N.length f) vs H Q E) : t { nx := fun _ H' => Q .non H', rt := Q } (start N vs) H := by
  obtain ⟨F, ds, w, ex, dom, reps, hn, e, k⟩ := hs
  have r0 := R.beg (N := N) ex dom reps
  have nO : ∀ a, ¬ Owned (start N vs) (startE N.length ds) a := fun a ⟨i, d, q, _⟩ => start_own q
  unfold runP at e
  split at e
  · rename_i w' ρ' ef
    cases e
    refine h F _ H _ _ _ r0 ef fun v σ' F' H' r s kp o => ?_
    refine k v F' H' (fun a o q => s.keep a o q (nO a)) r.ex r.dom s.le (fun a q => s.frz a q (nO a)) ?_
    cases w with
    | val d => exact o
    | own d => obtain ⟨a, ev, q, ow, _⟩ := o; exact ⟨a, ev, q.elim (fun z => absurd z (nO a)) id, ow⟩
    | pl i => exact o
  · rename_i ρ' ef
    cases e
    refine h F _ H _ _ _ r0 ef fun σ' F' H' r s kp => ?_
    exact k .non F' H' (fun a o q => s.keep a o q (nO a)) r.ex r.dom s.le (fun a q => s.frz a q (nO a)) .non
  · cases e
theorem fn_I {N : List Str} {n : Nat} {t : TS} {f : Sv} {vs : List V} {H : Hp} {Q : VK} {E : XK} (h : DS K as t f) (h0 : 0 ∉ as) (hs : spI K n (runI N.length f) vs H Q E) : t { nx := fun _ H' => Q .non H', rt := Q } (start N vs) H := by
  obtain ⟨a, us, F, d, ds, w, d', rfl, hn, ex, dom, ow, reps, e, k⟩ := hs
  have e0 : start N (.ref a :: us) = some (.ref a) :: (us.map some ++ List.replicate (N.length - (us.length + 1)) none) := rfl
  have own0 : ∀ {i : Nat} {y : D}, (startI N.length d ds)[i]? = some (some (.o y)) → i = 0 := fun {i y} q => by
    cases i with
    | zero => rfl
    | succ i => exact absurd (show _ = some (some (Ent.o y)) by simpa [startI] using q) start_own
  have r0 : R K F (start N (.ref a :: us)) H (startI N.length d ds) := by
    refine ⟨ex, dom, by rw [e0]; simp [startI, reps.length], fun i y q => ?_, fun i y q => ?_, fun i j y y' b q q' _ _ => (own0 q).trans (own0 q').symm⟩
    · cases i with
      | zero => cases q
      | succ i =>
        rw [e0, List.getElem?_cons_succ]
        refine start_val reps i y _ ?_
        have q2 : (ds.map (fun d => some (Ent.v d)) ++ List.replicate (N.length - (us.length + 1)) none)[i]? = some (some (.v y)) := by
          have := reps.length
          simpa [startI, this] using q
        exact q2
    · have hi := own0 q
      subst hi
      cases q
      exact ⟨a, by rw [e0]; rfl, ow⟩
  have isO : ∀ b, Owned (start N (.ref a :: us)) (startI N.length d ds) b → b = a := fun b ⟨i, y, q, z⟩ => by
    have hi := own0 q
    subst hi
    rw [e0] at z
    cases z; rfl
  have fin : ∀ {σ' : L2.St} {ρ' : En} {F' H' : Hp} {dd : D}, R K F' σ' H' ρ' → Step (start N (.ref a :: us)) (startI N.length d ds) F H σ' ρ' F' H' → Kp as (start N (.ref a :: us)) σ' → ρ'[0]? = some (some (.o dd)) →
      (∀ b o, b ≠ a → H b = some o → H' b = some o) ∧ (∀ b, H b ≠ none → F' b = F b) ∧ Own K F' H' a dd ∧ σ'[0]? = some (some (.ref a)) := fun {σ' ρ' F' H' dd} r s kp q => by
    obtain ⟨b, hb, ob⟩ := r.own 0 dd q
    have hb' := kp 0 h0
    rw [hb, e0] at hb'
    cases hb'
    refine ⟨fun c o hc z => s.keep c o z fun w => hc (isO c w), fun c hc => ?_, ob, hb⟩
    by_cases hca : c = a
    · subst hca; rw [ob.free, ow.free]
    · exact s.frz c hc fun w => hca (isO c w)
  unfold runI at e
  split at e
  · rename_i w' ρ' ef
    split at e
    · rename_i dd q
      cases e
      refine h F _ H _ _ _ r0 ef fun v σ' F' H' r s kp o => ?_
      obtain ⟨f1, f2, f3, f4⟩ := fin r s kp q
      refine k v F' H' f1 r.ex r.dom s.le f2 f3 ?_
      cases w with
      | val y => exact o
      | own y =>
        obtain ⟨b, ev, hb, ob, nb⟩ := o
        refine ⟨b, ev, hb.elim (fun z => ?_) id, ob⟩
        have hba := isO b z
        subst hba
        exact absurd ⟨0, _, q, f4⟩ nb
      | pl i => exact o
    · cases e
  · rename_i ρ' ef
    split at e
    · rename_i dd q
      cases e
      refine h F _ H _ _ _ r0 ef fun σ' F' H' r s kp => ?_
      obtain ⟨f1, f2, f3, f4⟩ := fin r s kp q
      exact k .non F' H' f1 r.ex r.dom s.le f2 f3 .non
    · cases e
  · cases e
/-- behind a call of a def that changes nothing -/
theorem R.called {F H F' H' : Hp} {σ : L2.St} {ρ : En} (r : R K F σ H ρ) (exH : Ex H H') (ex : Ex F' H') (dom : ∀ a, H' a = none → F' a = none) (le : Le F F') (fr : ∀ a, H a ≠ none → F' a = F a) : R K F' σ H' ρ ∧ Step σ ρ F H σ ρ F' H' := by
  have hd : ∀ a, H' a = none → H a = none := fun a h => by
    cases q : H a with
    | none => rfl
    | some o => rw [exH a o q] at h; cases h
  refine ⟨⟨ex, dom, r.len, fun i d h => ?_, fun i d h => ?_, r.sep⟩, ⟨le, fun a o h _ => exH a o h, hd, fun a h _ => fr a h, fun a h => .inl h⟩⟩
  · obtain ⟨v, h1, h2⟩ := r.val i d h
    exact ⟨v, h1, h2.mono le⟩
  · obtain ⟨a, h1, h2⟩ := r.own i d h
    refine ⟨a, h1, h2.move le (fr a h2.there) ?_⟩
    cases q : H a with
    | none => exact absurd q h2.there
    | some o => exact exH a o q
def sCall (m : List D → Option Opd) (fs : Evs) : Ev := fun ρ => (fs ρ).bind fun p => (m p.1).map fun w => (w, p.2)
theorem RO.of {F' H' H H0 : Hp} {σ : L2.St} {ρ : En} {v : V} {w : Opd} (h : RP K F' H' H v w) (r : R K F' σ H' ρ) (s : ∀ a, H a = none → H0 a = none) (n : ∀ a, H a = none → ¬ Owned σ ρ a) : RO K F' H' σ ρ H0 v w := by
  cases w with
  | val d => exact h
  | own d => obtain ⟨a, e, q, o⟩ := h; exact ⟨a, e, s a q, o, n a q⟩
  | pl i => exact h.elim
theorem R.notO {F H : Hp} {σ : L2.St} {ρ : En} (r : R K F σ H ρ) {a : Addr} (h : H a = none) : ¬ Owned σ ρ a := fun ⟨i, d, h1, h2⟩ => by
  obtain ⟨b, h3, h4⟩ := r.own i d h1
  have e : some (some (V.ref a)) = some (some (V.ref b)) := h2.symm.trans h3
  cases e; exact h4.there h
theorem dx_call {n : Nat} {m : List D → Option Opd} {ta : TA} {fs : Evs} {E : XK} (h : DA K ta fs) (hn : ∀ ρ p, fs ρ = some p → p.1.length = n) : DX K (tCall (spP K n m) [] E ta) (sCall m fs) := by
  intro F σ H ρ w ρ' Q r0 e k
  obtain ⟨⟨ds, ρ1⟩, e1, e⟩ := Option.bind_eq_some_iff.mp e
  obtain ⟨w1, e2, e⟩ := Option.map_eq_some_iff.mp e
  cases e
  refine h F σ H ρ ds _ _ r0 e1 fun vs F1 H1 r1 s1 reps => ?_
  rw [List.append_nil]
  refine ⟨F1, ds, w, r1.ex, r1.dom, reps, reps.length.trans (hn ρ _ e1), e2, fun v F' H' exH ex dom le fr rp => ?_⟩
  obtain ⟨r2, s2⟩ := r1.called exH ex dom le fr
  exact k v F' H' r2 (s1.trans s2) (RO.of rp r2 s1.dom fun a ha z => r1.notO ha z)
/-- a def that changes its first argument's list: a slot's own -/
def sCallI (i : Nat) (m : D → List D → Option (Opd × D)) (fs : Evs) : Ev := fun ρ => (cur ρ i).bind fun _ => (fs ρ).bind fun p => match p.2[i]? with
  | some (some (.o d)) => (m d p.1).map fun z => (z.1, p.2.set i (some (.o z.2)))
  | _ => none
theorem dx_callI {n : Nat} {i : Nat} {m : D → List D → Option (Opd × D)} {ta : TA} {fs : Evs} {E : XK} (h : DA K ta fs) (hn : ∀ ρ p, fs ρ = some p → p.1.length = n) : DX K (tCall (spI K n m) [] E (tCons (tVar i) ta)) (sCallI i m fs) := by
  intro F σ H ρ w ρ' Q r0 e k
  obtain ⟨d0, e0, e⟩ := Option.bind_eq_some_iff.mp e
  obtain ⟨⟨ds, ρ1⟩, e1, e⟩ := Option.bind_eq_some_iff.mp e
  dsimp only at e
  split at e
  · rename_i d q
    obtain ⟨⟨w1, d'⟩, e2, e⟩ := Option.map_eq_some_iff.mp e
    cases e
    obtain ⟨x, hx⟩ : ∃ x, σ[i]? = some (some x) := by
      rcases cur_some e0 with z | z
      · obtain ⟨v, hv, _⟩ := r0.val i _ z; exact ⟨v, hv⟩
      · obtain ⟨a, ha, _⟩ := r0.own i _ z; exact ⟨_, ha⟩
    refine ⟨x, hx, h F σ H ρ ds ρ1 _ r0 e1 fun vs F1 H1 r1 s1 reps => ?_⟩
    obtain ⟨a, ha, ow⟩ := r1.own i _ q
    have e3 : some (some x) = some (some (V.ref a)) := hx.symm.trans ha
    cases e3
    rw [List.append_nil]
    refine ⟨a, vs, F1, d, ds, _, d', rfl, reps.length.trans (hn ρ _ e1), r1.ex, r1.dom, ow, reps, e2, fun v F' H' kp ex dom le fr ow' rp => ?_⟩
    have hs : ∀ c, Owned σ (ρ1.set i (some (.o d'))) c → Owned σ ρ1 c := by
      rintro c ⟨j, y, z1, z2⟩
      rcases getElem?_set_some z1 with ⟨hj, w⟩ | ⟨hj, w⟩
      · subst hj; exact ⟨j, _, q, z2⟩
      · exact ⟨j, y, w, z2⟩
    have hd : ∀ b, H' b = none → H1 b = none := fun b hb => by
      cases z : H1 b with
      | none => rfl
      | some o =>
        by_cases hba : b = a
        · subst hba; exact absurd hb ow'.there
        · rw [kp b o hba z] at hb; cases hb
    have r2 : R K F' σ H' (ρ1.set i (some (.o d'))) := by
      refine ⟨ex, dom, by simpa using r1.len, fun j y z => ?_, fun j y z => ?_, fun j l y y' b z z' e e' => ?_⟩
      · rcases getElem?_set_some z with ⟨hj, w⟩ | ⟨hj, w⟩
        · cases w
        · obtain ⟨u, h1, h2⟩ := r1.val j y w
          exact ⟨u, h1, h2.mono le⟩
      · rcases getElem?_set_some z with ⟨hj, w⟩ | ⟨hj, w⟩
        · cases w; subst hj; exact ⟨a, ha, ow'⟩
        · obtain ⟨b, h1, h2⟩ := r1.own j y w
          have hba : b ≠ a := fun z => by subst z; exact hj (r1.sep j i y _ b w q h1 ha)
          refine ⟨b, h1, h2.move le (fr b h2.there) ?_⟩
          cases z : H1 b with
          | none => exact absurd z h2.there
          | some o => exact kp b o hba z
      · have old : ∀ {j : Nat} {y : D}, (ρ1.set i (some (.o d')))[j]? = some (some (.o y)) → ∃ y', ρ1[j]? = some (some (.o y')) := fun {j y} z => by
          rcases getElem?_set_some z with ⟨hj, w⟩ | ⟨hj, w⟩
          · subst hj; exact ⟨_, q⟩
          · exact ⟨_, w⟩
        obtain ⟨_, g⟩ := old z
        obtain ⟨_, g'⟩ := old z'
        exact r1.sep j l _ _ b g g' e e'
    have s2 : Step σ ρ1 F1 H1 σ (ρ1.set i (some (.o d'))) F' H' :=
      ⟨le, fun b o z n => kp b o (fun zz => by subst zz; exact n ⟨i, _, q, ha⟩) z, hd, fun b z _ => fr b z, fun c hc => .inl (hs c hc)⟩
    exact k v F' H' r2 (s1.trans s2) (RO.of rp r2 s1.dom fun b hb z => r1.notO hb (hs b z))
  · cases e
end
end Bl
namespace Bl
open PySem PySem.Spec PyProof.Rows L2 Evl
/-! ### one rule an operator -/
def rAddU (K : PySem.W.Frag) : R2 := fun x y H Q => rI0 (fun i j => .int (i + j)) x y H Q ∨ (fun x y H Q => rCat x y H Q ∨ (fun x y H Q => rCatA K x y H Q ∨ (fun x y H Q => ∃ i j, x = .str i ∧ y = .str j ∧ i.length + j.length ≤ sizeLine ∧ Q (.str (i ++ j)) H) x y H Q) x y H Q) x y H Q
def addU (a b : D) : Option Opd := (iOp (fun i j => some (i + j)) a b).or ((catL a b).or ((catT a b).or (catS a b)))
theorem op_addU {X : Cx} : OpR X (binaryOp .Add) (rAddU X.K) := op_add.or (op_cat.or (op_catA.or op_add_str))
theorem od_addU {K : PySem.W.Frag} : OpD K (rAddU K) addU := od_I0.or (od_catL.or (od_catT.or od_catS))
def rMulU (K : PySem.W.Frag) : R2 := fun x y H Q => rI CMul (fun i j => .int (i * j)) x y H Q ∨ rRep x y H Q
def mulI (i j : Int) : Option Int := if (-(2 ^ 64) < i ∧ i < 2 ^ 64) ∨ (-(2 ^ 64) < j ∧ j < 2 ^ 64) then some (i * j) else none
def mulU (a b : D) : Option Opd := (iOp mulI a b).or (repL a b)
theorem op_mulU {X : Cx} : OpR X (binaryOp .Mult) (rMulU X.K) := op_mul.or op_rep
theorem od_repL {K : PySem.W.Frag} : OpD K rRep repL := by
  intro F σ H ρ x y dx dy w Q r0 hx hy e k
  cases dx <;> try (cases e; done)
  cases dy <;> try (cases e; done)
  rename_i ds n
  dsimp only [repL] at e
  split at e
  · rename_i hz
    cases e
    obtain ⟨a, vs, rfl, h1, h2⟩ := hx
    refine ⟨a, n, vs, rfl, rb_int hy, h1, by omega, by omega, ?_, fun p hp => k.newL r0 hp (reps_rep h2 _)⟩
    rw [h2.length]
    refine szl ?_
    have h3 : n.toNat ≤ 1000 := by omega
    exact Nat.le_trans (Nat.mul_le_mul hz.2.2 h3) (by decide)
  · cases e
theorem od_mulU {K : PySem.W.Frag} : OpD K (rMulU K) mulU := (od_I (h := fun i j => i * j) (g := mulI) fun i j z h => by
  unfold mulI at h
  split at h
  · rename_i hc; cases h; exact ⟨hc, rfl⟩
  · cases h).or od_repL
def fdivI (i j : Int) : Option Int := if 0 < j ∧ j < 1073741824 then some (i / j) else none
def modI (i j : Int) : Option Int := if 0 < j then some (i % j) else none
def powI (i j : Int) : Option Int := if 0 ≤ j ∧ j ≤ 1000 ∧ i.natAbs < 2 ^ 64 then some (i ^ j.toNat) else none
theorem od_fdiv {K : PySem.W.Frag} : OpD K (rI CDiv fun i j => .int (i / j)) (iOp fdivI) := od_I (h := fun i j => i / j) fun i j z h => by
  unfold fdivI at h
  split at h
  · rename_i hc; cases h; exact ⟨hc, rfl⟩
  · cases h
theorem od_mod {K : PySem.W.Frag} : OpD K (rI (fun _ j => 0 < j) fun i j => .int (i % j)) (iOp modI) := od_I (h := fun i j => i % j) fun i j z h => by
  unfold modI at h
  split at h
  · rename_i hc; cases h; exact ⟨hc, rfl⟩
  · cases h
theorem od_pow {K : PySem.W.Frag} : OpD K (rI CPow fun i j => .int (i ^ j.toNat)) (iOp powI) := od_I (h := fun i j => i ^ j.toNat) fun i j z h => by
  unfold powI at h
  split at h
  · rename_i hc; cases h; exact ⟨⟨hc.1, by omega, hc.2.2⟩, rfl⟩
  · cases h
theorem od_sub {K : PySem.W.Frag} : OpD K (rI0 fun i j => .int (i - j)) (iOp fun i j => some (i - j)) := od_I0
def rLtU : R2 := fun x y H Q => rI0 (fun i j => .bl (decide (i < j))) x y H Q ∨ (fun x y H Q => ∃ i j, x = .str i ∧ y = .str j ∧ Q (.bl (decide (i.cps.toList < j.cps.toList))) H) x y H Q
def ltU (a b : D) : Option Opd := (iCmp (fun i j => decide (i < j)) a b).or (ltS a b)
theorem op_ltU {X : Cx} : OpR X (compareOp .Lt) rLtU := op_lt.or op_lt_str
theorem od_ltU {K : PySem.W.Frag} : OpD K rLtU ltU := od_B0.or od_ltS
/-! in of a list, a tuple, a text (a dict: pc_din, pc_dnotin; xs[i]: ix_seq; d[k]: pe_dget) -/
def rInU (K : PySem.W.Frag) : R2 := fun x y H Q => rIn K false x y H Q ∨ (fun x y H Q => ∃ i j, x = .str i ∧ y = .str j ∧ Q (.bl (!(Builtin.Str.occurrences j i 0 j.length 1).isEmpty)) H) x y H Q
def inU (a b : D) : Option Opd := (inSeq false a b).or (inStr false a b)
theorem op_inU {X : Cx} : OpR X (compareOp .In) (rInU X.K) := op_in_seq.or op_in_str
theorem od_inU {K : PySem.W.Frag} : OpD K (rInU K) inU := (od_in false).or od_inStr
def rNinU (K : PySem.W.Frag) : R2 := fun x y H Q => rIn K true x y H Q ∨ (fun x y H Q => ∃ i j, x = .str i ∧ y = .str j ∧ Q (.bl (!(!(Builtin.Str.occurrences j i 0 j.length 1).isEmpty))) H) x y H Q
def ninU (a b : D) : Option Opd := (inSeq true a b).or (inStr true a b)
theorem op_ninU {X : Cx} : OpR X (compareOp .NotIn) (rNinU X.K) := op_notIn_seq.or op_notin_str
theorem od_ninU {K : PySem.W.Frag} : OpD K (rNinU K) ninU := (od_in true).or od_notinStr
def isB : D → D → Option Opd
  | .bl a, .bl b => some (.val (.bl (decide (a = b))))
  | _, _ => none
theorem sl_U {X : Cx} : SlR X (rSlB X.K) := sl_list.or sl_tupA
/-! ### sorted -/
def pyOf (d : D) : PyData := (toPy d).getD .none
def leD (a b : D) : Bool := PySem.W.dataLe false pyOf a b
def okSort (ds : List D) : Bool := (ds.all fun d => (toPy d).isSome && decide ((pyOf d).depth ≤ 60)) && (ds.all fun d => ds.all fun d' => PySem.W.alike (pyOf d) (pyOf d')) &&
  ((ds.all fun d => match pyOf d with | .tuple (_ :: _) => true | _ => false) || (ds.all fun d => match pyOf d with | .none => false | .tuple _ => false | _ => true)) && decide (ds.length ≤ 1000000)
def rSortD (K : PySem.W.Frag) : List V → Hp → VK → Prop := fun xs H Q => ∃ F a vs ds, xs = [V.ref a] ∧ Ex F H ∧ H a = some (.lst vs) ∧ Reps K F vs ds ∧ okSort ds = true ∧ ∀ p ws, H p = none → Reps K F ws (ds.mergeSort leD) → Q (.ref p) (upd H p (.lst ws))
def sortO : D → Option Opd
  | .lst ds => if okSort ds then some (.own (.lst (ds.mergeSort leD))) else none
  | _ => none
theorem ud_sort {K : PySem.W.Frag} : UnD K (fun x => rSortD K [x]) sortO := by
  intro F σ H ρ x dx w Q r0 hx e k
  cases dx <;> try (cases e; done)
  dsimp only [sortO] at e
  split at e
  · rename_i hz
    cases e
    obtain ⟨a, vs, rfl, h1, h2⟩ := hx
    exact ⟨F, a, vs, _, rfl, r0.ex, h1, h2, hz, fun p ws hp hr => k.newL r0 hp hr⟩
  · cases e
theorem okSort_parts {ds : List D} (h : okSort ds = true) : (∀ d ∈ ds, ∃ p, toPy d = some p ∧ pyOf d = p ∧ p.depth ≤ 60) ∧ PySem.W.AllAlike (ds.map pyOf) ∧ PySem.W.Sortable (ds.map pyOf) ∧ ds.length ≤ 1000000 := by
  unfold okSort at h
  simp only [Bool.and_eq_true, Bool.or_eq_true, List.all_eq_true, decide_eq_true_eq] at h
  obtain ⟨⟨⟨h1, h2⟩, h3⟩, h4⟩ := h
  refine ⟨fun d hd => ?_, fun p hp q hq => ?_, ?_, h4⟩
  · obtain ⟨g1, g2⟩ := h1 d hd
    cases e : toPy d with
    | none => rw [e] at g1; cases g1
    | some p => exact ⟨p, rfl, by unfold pyOf; rw [e]; rfl, by unfold pyOf at g2; rw [e] at g2; exact g2⟩
  · obtain ⟨d, hd, rfl⟩ := List.mem_map.mp hp
    obtain ⟨d', hd', rfl⟩ := List.mem_map.mp hq
    exact h2 d hd d' hd'
  · rcases h3 with h3 | h3
    · refine .inl fun p hp => ?_
      obtain ⟨d, hd, rfl⟩ := List.mem_map.mp hp
      have := h3 d hd
      split at this
      · rename_i x r e; exact ⟨x, r, e⟩
      · cases this
    · refine .inr fun p hp => ?_
      obtain ⟨d, hd, rfl⟩ := List.mem_map.mp hp
      have := h3 d hd
      split at this
      · cases this
      · cases this
      · rename_i g1 g2; exact ⟨g1, g2⟩
theorem each_reps {K : PySem.W.Frag} {F : Hp} : ∀ {vs : List V} {us : List Value} {ds : List D}, Reps K F vs ds → Vals vs us → PySem.W.EachIs (fun v b => ∃ x, RelV x v ∧ Rep K F x b) us ds
  | _, _, _, .nil, .nil => .nil
  | _, _, _, .cons h r, .cons q t => .cons ⟨_, q, h⟩ (each_reps r t)
theorem reps_each {K : PySem.W.Frag} {F : Hp} : ∀ {us : List Value} {ds : List D}, PySem.W.EachIs (fun v b => ∃ x, RelV x v ∧ Rep K F x b) us ds → ∃ vs, Reps K F vs ds ∧ Vals vs us
  | _, _, .nil => ⟨[], .nil, .nil⟩
  | _, _, .cons ⟨x, h1, h2⟩ t => by
    obtain ⟨vs, g1, g2⟩ := reps_each t
    exact ⟨x :: vs, .cons h2 g1, .cons h1 g2⟩
theorem each_reads {X : Cx} {pins : List (Addr × Obj)} {σ : L2.St} {H F : Hp} {s : Shared} (I : Inv X pins σ H s) (ex : Ex F H) : ∀ {vs : List V} {us : List Value} {ds : List D}, Reps X.K F vs ds → Vals vs us → (∀ d ∈ ds, ∃ p, toPy d = some p ∧ pyOf d = p ∧ p.depth ≤ 60) →
    PySem.W.EachIs (fun v b => ∃ as, Reads s.heap v (pyOf b) as) us ds
  | _, _, _, .nil, .nil, _ => .nil
  | _, _, _, .cons h r, .cons q t, hp => by
    obtain ⟨p, e1, e2, _⟩ := hp _ List.mem_cons_self
    refine .cons ?_ (each_reads I ex r t fun d hd => hp d (List.mem_cons_of_mem _ hd))
    rw [e2]
    exact Dp.reads I p _ _ (h.dp ex e1) q
theorem cr_sortD {X : Cx} (hu : X.A.units + 64 < cLine) : CallR X (.builtin "sorted") (rSortD X.K) := by
  intro pins s σ H xs us Q I r h
  obtain ⟨F, a, vs, ds, rfl, ex, ha, reps, ok, q⟩ := h
  obtain ⟨its, rv, hl, _⟩ := I.list (SqL.of ha)
  rw [Vals.ref1 r]
  obtain ⟨k1, k2, k3, k4⟩ := okSort_parts ok
  refine PySem.W.sorted_data (enc := pyOf) (bs := ds) hl.isList (each_reps reps rv) (each_reads I ex reps rv k1) k2 k3 (szl k4) (fun b hb => ?_) fun out ho eo => ?_
  · obtain ⟨p, _, e2, e3⟩ := k1 b hb
    rw [e2]; omega
  · obtain ⟨ep, he'⟩ := PyProof.Rows.sortedAll_at s.heap its out.toArray
    obtain ⟨ws, g1, g2⟩ := reps_each eo
    have hlen : ws.length ≤ sizeLine := by rw [g2.length, ho]; exact szl k4
    exact ⟨.ref _, upd H (s.heap.objs.size + 1) (.lst ws), I.laid (t' := s.toks) (fun _ _ => PyProof.Rows.sortedAll_old) (Nat.le_succ _) ⟨hlen, out, ep, g2, he'⟩, rfl, q _ ws (I.hok.fresh (Nat.le_succ _)) g1⟩
end Bl
/-! Sets of texts, as far as sorted(set(xs)) wants them: what is kept of the table (Ris, led) by each add, over the exact add of PySem.Froz. -/
namespace Bl
open PySem PySem.Spec PyProof.Rows L2 Evl PySem.Froz
def Ordered (w : World) (D : SD) : Prop := Ris D.2.2.place.toList ∧ (w.params.followText "set-order" = true ∨ D.2.2.led = true)
theorem ordered_tail {w : World} {ep : Nat} {es : Array (Int × Value)} {t : SetTable} {b : Bool} (h : Ordered w (es, ep, t)) : Ordered w (tailTx ep es t b) := by
  unfold tailTx
  by_cases c : (!b && t.tooFull) = true
  · rw [if_pos c]
    exact ⟨relayAll_ris _ _ _, h.2.imp id fun z => (relayAll_led t es _).trans z⟩
  · rw [if_neg c]
    exact h
theorem ordered_add {w : World} {D : SD} {x : Int} {v : Value} (h : Ordered w D) : Ordered w (addTx x v D) := by
  have r := layNew_ris D.2.2 D.1 x v h.1
  have l := layNew_led D.2.2 D.1 x v
  refine ordered_tail (ep := D.2.1) ?_
  by_cases c : (layNew D.2.2 D.1 x v).2.1.plain = true
  · rw [if_pos c]; exact ⟨r, h.2.imp id fun z => l.trans z⟩
  · rw [if_neg c]; exact ⟨r, h.2.imp id fun z => l.trans z⟩
/-- the set at a holds the texts l, each once -/
structure TxSet (P : Program) (w : World) (h : Heap) (a : Addr) (l : List Str) : Prop where
  ex : ∃ D, h.get? a = some (sObj "set" D) ∧ TxOk P w D l ∧ Ordered w D
  nd : l.Nodup
section
variable {P : Program} {w : World} {A : Around} {E : Value → Shared → Prop} {s : Shared} {a : Addr} {l : List Str} {k : Str} {u : Tok}
theorem TxSet.keep {h h' : Heap} (x : TxSet P w h a l) (hk : ∀ o, h.get? a = some o → h'.get? a = some o) : TxSet P w h' a l := by
  obtain ⟨D, g, r⟩ := x.ex
  exact ⟨⟨D, hk _ g, r⟩, x.nd⟩
/-- a text that is there is not put in again -/
theorem add_there {D : SD} {Q : Bool → Shared → Prop} (ho : s.heap.get? a = some (sObj "set" D)) (ok : TxOk P w D l) (hk : k ∈ l) (hb : l.length < scanBound) (q : Q false s) : wpAny (model P w) A (setAddHashed a (.str k u) (hashStr w k)) Q E s := by
  have here : ∃ j, D.1.toList.findIdx? (fun e => (strKind P w).is k e.2) = some j := by
    cases e : D.1.toList.findIdx? (fun e => (strKind P w).is k e.2) with
    | some j => exact ⟨j, rfl⟩
    | none =>
      obtain ⟨z, hz, iz⟩ := (ok.mem k).mp hk
      have := List.findIdx?_eq_none_iff.mp e z hz
      rw [iz] at this; cases this
  obtain ⟨j, hj⟩ := here
  have few : D.1.size < scanBound := by rw [ok.sz]; exact hb
  have scan : byScan (.str k u) D.1 = true := byScan_of (knd := strKind P w) rfl few ok.el
  unfold setAddHashed
  refine wpAny_holding ?_
  rw [setAddHashedIn]
  refine wpAny_bind (wpAny_setState_of ho rfl ok.fit ?_)
  simp only [scan, if_true]
  refine wpAny_bind ?_
  unfold setAddByScan
  refine wpAny_bind (wpAny_rule (wpAny_bind (wpAny_setScan_of (knd := strKind P w) (is_str k u) ho rfl ok.fit ok.el ?_)))
  rw [hj]
  exact wpAny_pure (wpAny_pure q)
theorem add_text {Q : Bool → Shared → Prop} (S : TxSet P w s.heap a l) (hb : l.length + 1 < scanBound)
    (q : ∀ b h' tk l', TxSet P w h' a l' → (∀ x, x ∈ l' ↔ x ∈ l ∨ x = k) → l'.length ≤ l.length + 1 → Heap.SameBut a s.heap h' → s.toks ≤ tk → Q b { s with heap := h', toks := tk }) : wpAny (model P w) A (setAdd a (.str k u)) Q E s := by
  obtain ⟨⟨D, ho, ok, ord⟩, nd⟩ := S
  unfold setAdd
  refine wpAny_holding (wpAny_bind ((strKind P w).pyHash (k := k) (is_str k u) ?_))
  by_cases hk : k ∈ l
  · refine add_there (s := { s with toks := s.toks + 1 }) ho ok hk (by omega) ?_
    exact q false s.heap _ l ⟨⟨D, ho, ok, ord⟩, nd⟩ (fun x => ⟨.inl, fun z => z.elim id fun e => e ▸ hk⟩) (Nat.le_succ _) (Heap.SameBut.refl a s.heap) (Nat.le_succ _)
  · refine add_x (s := { s with toks := s.toks + 1 }) ho ok hk hb ?_
    have new := Heap.get?_update_self (h := s.heap) (a := a) (fun _ => sObj "set" (addTx (hashStr w k) (.str k u) D)) ho rfl
    exact q true _ _ (k :: l) ⟨⟨_, new, add_ok u ok, ordered_add ord⟩, List.nodup_cons.mpr ⟨hk, nd⟩⟩ (fun x => by rw [List.mem_cons]; exact Or.comm) (Nat.le_refl _) (Heap.SameBut.update s.heap a _) (Nat.le_succ _)
/-- the loop of set(xs): what is still to come is put in -/
theorem fill_texts {I S : Addr} {fp wr : List Addr} {G : Array GenState → Array GenState → Prop} {xs : List Str} {Pv : Nat → Value → Prop} {St : Nat → Shared → Prop} {R : Result → Shared → Prop}
    (W : WalksS P w A.in1 I fp wr G xs.length Pv St) (hS : S ∉ fp) (hv : ∀ i v, Pv i v → ∃ x t, xs[i]? = some x ∧ v = .str x t) (hb : xs.length + 1 < scanBound) :
    ∀ (left i : Nat) (s : Shared) (l : List Str), left + i = xs.length → St i s → TxSet P w s.heap S l → (∀ x, x ∈ l ↔ x ∈ xs.take i) → l.length ≤ i →
      (∀ s' l', Moved (S :: wr) G s s' → TxSet P w s'.heap S l' → (∀ x, x ∈ l' ↔ x ∈ xs) → R (.ok (.ret .none)) s') → codeAny (model P w) A (.builtin "set.update.loop" ⟨[.ref S, .ref I], []⟩) R s := by
  have nw : S ∉ wr := fun z => hS (W.sub _ z)
  intro left
  induction left with
  | zero =>
    intro i s l hi st T hm hl fin
    have ei : i = xs.length := by omega
    subst ei
    refine codeAny_builtin F.entry_set_update_loop (Around.under_plainId F.plain_set_update_loop _ ▸ wpAny_bind (m := pyNext (.ref I)) (W.done s _ _ st fun s' mv => wpAny_pure (fin s' l ⟨fun b o hb e => mv.heap b o (fun z => hb (List.mem_cons_of_mem _ z)) e, mv.gens, mv.drawn, mv.os, mv.toks⟩ (T.keep fun o e => mv.heap S o nw e) fun x => ?_)))
    rw [hm x, List.take_of_length_le (Nat.le_refl _)]
  | succ left ih =>
    intro i s l hi st T hm hl fin
    refine codeAny_builtin F.entry_set_update_loop (Around.under_plainId F.plain_set_update_loop _ ▸ wpAny_bind (m := pyNext (.ref I)) (W.item i s _ _ (by omega) st fun v s1 pv st1 mv => ?_))
    obtain ⟨x, t, ex, rfl⟩ := hv i v pv
    refine wpAny_bind (m := holding [Value.str x t] (setAdd S (.str x t))) (wpAny_holding (add_text (k := x) (T.keep fun o e => mv.heap S o nw e) (by omega) fun b h' tk l' T' hm' hl' sb htk => ?_))
    have st2 : St (i + 1) { s1 with heap := h', toks := tk } := W.frame _ s1 h' tk st1 htk fun c hc o e => (sb.2 c fun z => hS (z ▸ hc)).trans e
    refine wpAny_pure ⟨plainId_quiet F.plain_set_update_loop _, ih (i + 1) _ l' (by omega) st2 T' (fun y => ?_) (by omega) fun s2 l2 mv2 T2 hm2 => fin s2 l2 ?_ T2 hm2⟩
    · rw [hm' y, hm y, List.take_add_one, ex]
      simp [List.mem_append]
    · refine ⟨fun c o hc e => mv2.heap c o hc ((sb.2 c fun z => hc (by rw [z]; exact List.mem_cons_self)).trans (mv.heap c o (fun z => hc (List.mem_cons_of_mem _ z)) e)), W.gtrans _ _ _ mv.gens mv2.gens, mv2.drawn.trans mv.drawn, mv2.os.trans mv.os, ?_⟩
      exact Nat.le_trans mv.toks (Nat.le_trans htk mv2.toks)
theorem strs_at : ∀ {us : List Value} {xs : List Str}, StrsAre us xs → ∀ {i : Nat} {v : Value}, us[i]? = some v → ∃ x t, xs[i]? = some x ∧ v = .str x t
  | _, _, .nil, _, _, e => nomatch e
  | _, _, .cons x t _, 0, _, e => ⟨x, t, rfl, (Option.some.inj e).symm⟩
  | _, _, .cons _ _ r, _ + 1, _, e => strs_at r e
/-- the empty set as set(..) lays it -/
abbrev setNew (w : World) : Obj := { cls := .type "set", dict := none, data := .set #[] 0 (.fresh 0 0 (!w.params.followText "set-order")) }
theorem TxSet.empty {h : Heap} (ho : h.get? a = some (setNew w)) : TxSet P w h a [] where
  ex := by
    refine ⟨(#[], 0, .fresh 0 0 (!w.params.followText "set-order")), ho, TxOk.nil rfl, List.Pairwise.nil, ?_⟩
    show w.params.followText "set-order" = true ∨ (!w.params.followText "set-order") = true
    cases w.params.followText "set-order" <;> simp
  nd := List.nodup_nil
set_option maxHeartbeats 8000000 in
/-- set.__init__(S, xs) of a set S just laid: the texts of xs go in -/
theorem init_texts {S b : Addr} {its : Array Value} {xs : List Str} {Q : Value → Shared → Prop} (quiet : A.handled = none) (hS : s.heap.get? S = some (setNew w)) (hL : s.heap.IsList b its) (ne : b ≠ S) (hX : StrsAre its.toList xs) (few : xs.length + 1 < scanBound)
    (fin : ∀ h' tk ks, TxSet P w h' S ks → (∀ x, x ∈ ks ↔ x ∈ xs) → (∀ c o, c ≠ S → s.heap.get? c = some o → h'.get? c = some o) → Q .none { s with heap := h', toks := tk }) :
    codeAny (model P w) A (.call (.builtin "set.__init__") ⟨[.ref S, .ref b], []⟩) (wants Q E) s := by
  have len : its.size = xs.length := by rw [← Array.length_toList]; exact hX.length
  have tyS : s.TypeIs (.ref S) "set" := ⟨_, hS, rfl⟩
  refine codeAny_call_builtin F.called_set.init.plain F.entry_set_init (check_set_init_1 tyS ?_)
  obtain ⟨⟨cl, dd, data, sl⟩, hb, c1, n, c2⟩ := id hL
  simp only at c1 c2
  subst c1 c2
  have s1 := F.sub_list_set
  have s2 := F.sub_list_frozenset
  have s3 : (Value.type "list" == Value.type "dict") = false := by decide
  unfold Builtin.«set.__init__»
  unfold noKeywords Builtin.Frozenset.updateFrom
  generalize hI : pyIter = it
  wp_walk
  subst hI
  refine wpAny_pyIter_list hL (wpAny_bind (wpAny_runValue ?_))
  have bS := Heap.lt_size hb
  have sS := Heap.lt_size hS
  have out : S ∉ [s.heap.objs.size, b] := by
    simp only [List.mem_cons, List.not_mem_nil, or_false, not_or]
    exact ⟨Nat.ne_of_lt sS, Ne.symm ne⟩
  have W := (Walks.list (prog := P) (w := w) (A := A.in1.in1) (by simp [quiet]) s.heap.objs.size b (Nat.ne_of_lt bS) its).toS
  rw [len] at W
  refine fill_texts W out (fun i v hv => ?_) few xs.length 0 _ [] (Nat.add_zero _) ?_ (TxSet.empty (Heap.get?_push_of_some _ hS)) (fun x => by simp) (Nat.le_refl _) fun s' ks mv T hm => ?_
  · exact strs_at hX (by rw [Array.getElem?_toList]; exact hv)
  · exact ⟨⟨_, Heap.get?_push_size _ rfl, rfl, rfl⟩, hL.push _⟩
  · obtain ⟨h', g', d', tk', os'⟩ := s'
    obtain ⟨m1, m2, m3, m4, m5⟩ := mv
    dsimp only at m1 m2 m3 m4
    subst m2 m3 m4
    have old : ∀ c o, c ≠ S → s.heap.get? c = some o → h'.get? c = some o := fun c o hc e => m1 c o (by
      simp only [List.mem_cons, List.not_mem_nil, or_false, not_or]
      exact ⟨hc, Nat.ne_of_lt (Heap.lt_size e)⟩) (Heap.get?_push_of_some _ e)
    exact wpAny_pure (wpAny_pure (fin h' tk' ks T hm old))
set_option maxHeartbeats 8000000 in
/-- set(xs), xs a list of texts -/
theorem call_set_texts {b : Addr} {its : Array Value} {xs : List Str} {Q : Value → Shared → Prop} (quiet : A.handled = none) (hL : s.heap.IsList b its) (hX : StrsAre its.toList xs) (few : xs.length + 1 < scanBound)
    (fin : ∀ h' tk ks, TxSet P w h' s.heap.objs.size ks → (∀ x, x ∈ ks ↔ x ∈ xs) → (∀ c o, s.heap.get? c = some o → h'.get? c = some o) → Q (.ref s.heap.objs.size) { s with heap := h', toks := tk }) :
    wpAny (model P w) A (call (.type "set") [.ref b]) Q E s := by
  have C := F.called_set
  obtain ⟨_, _, way⟩ := C.mro
  have made := C.made
  have sub := C.sub
  have n1 := C.notType
  have n2 := C.canCreate
  have tc := F.typeCall_set_1 (.ref b)
  refine wpAny_call (codeAny_of_tree (wpAny_pure ⟨Code.quiet_builtin _ (by decide +kernel), codeAny_builtin F.entry_type_call (Around.under_plain (weight_type_call_type "set" [.ref b] []) rfl ▸ ?_)⟩))
  repeat any_goals first | assumption | wp_step
  refine codeAny_mono (code_set_led1 (.ref b) (E := E) (Q₁ := fun v s1 => v = .ref s.heap.objs.size ∧ s1 = { s with heap := s.heap.push (setNew w) }) ⟨rfl, rfl⟩) fun r s1 hr => ?_
  rcases r with e | f
  · exact hr
  cases f with
  | ret v =>
    obtain ⟨rfl, rfl⟩ := hr
    have hS : (s.heap.push (setNew w)).get? s.heap.objs.size = some (setNew w) := Heap.get?_push_size _ rfl
    have tyS : Shared.TypeIs { s with heap := s.heap.push (setNew w) } (.ref s.heap.objs.size) "set" := ⟨_, hS, rfl⟩
    have i1 := C.init.lookup
    have i2 := C.init.bind (.ref s.heap.objs.size)
    obtain ⟨ob, hb, cb⟩ := id hL
    have lb := Heap.lt_size hb
    repeat any_goals first | assumption | wp_step
    refine codeAny_mono (init_texts (E := E) (s := { s with heap := s.heap.push (setNew w) }) (Q := fun v s2 => v = .none ∧ ∃ h' tk ks, s2 = { s with heap := h', toks := tk } ∧ TxSet P w h' s.heap.objs.size ks ∧ (∀ x, x ∈ ks ↔ x ∈ xs) ∧ ∀ c o, s.heap.get? c = some o → h'.get? c = some o)
      (by simp [quiet]) hS (hL.push _) (Nat.ne_of_lt lb) hX few fun h' tk ks T hm old => ⟨rfl, h', tk, ks, rfl, T, hm, fun c o e => old c o (Nat.ne_of_lt (Heap.lt_size e)) (Heap.get?_push_of_some _ e)⟩) fun r2 s2 hr2 => ?_
    rcases r2 with e | f2
    · exact hr2
    cases f2 with
    | ret v2 =>
      obtain ⟨rfl, h', tk, ks, rfl, T, hm, old⟩ := hr2
      repeat any_goals first | assumption | wp_step
      exact fin h' tk ks T hm old
    | _ => exact hr2.elim
  | _ => exact hr.elim
end
end Bl
/-! sorted(set(xs)) of a list of texts: one list, whatever order the set has. -/
namespace Bl
open PySem PySem.Spec PyProof.Rows L2 Evl PySem.Froz
def leS (a b : Str) : Bool := decide (a.cps.toList ≤ b.cps.toList)
def sortS (l : List Str) : List Str := l.mergeSort leS
theorem leS_data : PySem.W.dataLe false PyData.str = leS := PySem.W.dataLe_str (β := Str) id
theorem leS_tot : PySem.W.TotalLe leS := leS_data ▸ PySem.W.sortLe_total _ _ _
theorem leS_anti (a b : Str) (h : leS a b = true) (h' : leS b a = true) : a = b := by
  have q := List.le_antisymm (of_decide_eq_true h) (of_decide_eq_true h')
  obtain ⟨⟨x⟩⟩ := a
  obtain ⟨⟨y⟩⟩ := b
  exact congrArg (fun l => Str.mk (Array.mk l)) q
/-- two lists without doubles that have the same members are sorted to one -/
theorem sortS_one {a b : List Str} (ha : a.Nodup) (hb : b.Nodup) (h : ∀ x, x ∈ a ↔ x ∈ b) : sortS a = sortS b := by
  have p : a.Perm b := (List.perm_ext_iff_of_nodup ha hb).mpr h
  have q : (sortS a).Perm (sortS b) := ((List.mergeSort_perm a leS).trans p).trans (List.mergeSort_perm b leS).symm
  exact q.eq_of_pairwise (fun x y _ _ h1 h2 => leS_anti x y h1 h2) (PySem.W.sort_pairwise leS_tot a) (PySem.W.sort_pairwise leS_tot b)
/-- the set, as a tracked thing -/
def TxO (P : Program) (w : World) (a : Addr) (ks : List Str) : HO := .ext fun h => TxSet P w h a ks
section
variable {P : Program} {w : World} {A : Around} {E : Value → Shared → Prop} {s : Shared} {a : Addr} {ks : List Str}
theorem TxSet.obj {H : Hp} {h : Heap} (T : TxSet P w h a ks) : ObjOk P w H h a (TxO P w a ks) := by
  obtain ⟨D, g, _⟩ := T.ex
  exact ⟨T, ⟨_, g⟩, fun _ _ T' k => T'.keep k⟩
theorem texts_of : ∀ {l : List (Int × Value)}, ElemsOf (strKind P w) l → ∃ xs, StrsAre (l.map (·.2)) xs ∧ ∀ k, k ∈ xs ↔ ∃ e ∈ l, (strKind P w).is k e.2 = true
  | [], _ => ⟨[], .nil, fun k => by simp⟩
  | e :: l, h => by
    obtain ⟨xs, g1, g2⟩ := texts_of (l := l) fun z hz => h z (List.mem_cons_of_mem _ hz)
    obtain ⟨⟨k, hk, _⟩, _⟩ := h e List.mem_cons_self
    obtain ⟨t, et⟩ := Value.isStrOf_shape (x := k) (v := e.2) hk
    refine ⟨k :: xs, by rw [List.map_cons, et]; exact .cons k t g1, fun j => ?_⟩
    rw [List.mem_cons, g2 j]
    constructor
    · rintro (rfl | ⟨z, hz, iz⟩)
      · exact ⟨e, List.mem_cons_self, hk⟩
      · exact ⟨z, List.mem_cons_of_mem _ hz, iz⟩
    · rintro ⟨z, hz, iz⟩
      rcases List.mem_cons.mp hz with e1 | hz
      · rw [e1] at iz; exact .inl ((strKind P w).inj _ _ _ iz hk)
      · exact .inr ⟨z, hz, iz⟩
theorem each_str {h : Heap} {c : Addr} : ∀ {us : List Value} {xs : List Str}, StrsAre us xs → PySem.W.EachIs (fun v x => ∃ t, v = Value.str x t) us xs ∧ PySem.W.EachIs (fun v x => ∃ as, Reads h v (PyData.str x) as ∧ c ∉ as) us xs
  | _, _, .nil => ⟨.nil, .nil⟩
  | _, _, .cons x t r => ⟨.cons ⟨t, rfl⟩ (each_str (h := h) (c := c) r).1, .cons ⟨[], .str x t, by simp⟩ (each_str (h := h) (c := c) r).2⟩
theorem vals_str : ∀ {us : List Value} {xs : List Str}, PySem.W.EachIs (fun v x => ∃ t, v = Value.str x t) us xs → Vals (xs.map V.str) us
  | _, _, .nil => .nil
  | _, _, .cons h r => .cons h (vals_str r)
end
def textOf : Value → Str
  | .str x _ => x
  | _ => Str.empty
theorem strs_text : ∀ {us : List Value} {xs : List Str}, StrsAre us xs → xs = us.map textOf ∧ ∀ v ∈ us, ∃ t, v = .str (textOf v) t
  | _, _, .nil => ⟨rfl, fun _ h => nomatch h⟩
  | _, _, .cons x t r => by
    obtain ⟨h1, h2⟩ := strs_text r
    refine ⟨by rw [List.map_cons, ← h1]; rfl, fun v hv => ?_⟩
    rcases List.mem_cons.mp hv with e | hv
    · rw [e]; exact ⟨t, rfl⟩
    · exact h2 v hv
theorem text_strs : ∀ us : List Value, (∀ v ∈ us, ∃ t, v = Value.str (textOf v) t) → StrsAre us (us.map textOf)
  | [], _ => .nil
  | v :: us, h => by
    obtain ⟨t, e⟩ := h v List.mem_cons_self
    rw [List.map_cons]
    generalize textOf v = x at e ⊢
    rw [e]
    exact .cons x t (text_strs us fun u hu => h u (List.mem_cons_of_mem _ hu))
theorem strs_perm {vs us : List Value} {xs : List Str} (p : vs.Perm us) (h : StrsAre us xs) : ∃ ys, StrsAre vs ys ∧ ys.Perm xs := by
  obtain ⟨h1, h2⟩ := strs_text h
  exact ⟨vs.map textOf, text_strs vs fun v hv => h2 v (p.mem_iff.mp hv), by rw [h1]; exact p.map textOf⟩
theorem perm_of_nodup : ∀ {ks xs : List Str}, ks.Nodup → (∀ x ∈ ks, x ∈ xs) → xs.length = ks.length → xs.Perm ks
  | [], xs, _, _, hl => by rw [List.length_eq_zero_iff.mp hl]
  | k :: ks, xs, nd, hs, hl => by
    have n1 := (List.nodup_cons.mp nd).1
    have n2 := (List.nodup_cons.mp nd).2
    have hk := hs k List.mem_cons_self
    have p := List.perm_cons_erase hk
    have le : (xs.erase k).length = ks.length := by have := p.length_eq; simp only [List.length_cons] at this hl; omega
    refine p.trans (List.Perm.cons k (perm_of_nodup n2 (fun x hx => ?_) le))
    have ne : x ≠ k := fun e => n1 (by rw [← e]; exact hx)
    exact (List.mem_erase_of_ne ne).mpr (hs x (List.mem_cons_of_mem _ hx))
section
variable {X : Cx}
def rSetTx (P : Program) (w : World) : List V → Hp → VK → Prop := fun xs H Q => ∃ (a : Addr) (ss : List Str), xs = [V.ref a] ∧ H a = some (.lst (ss.map V.str)) ∧ ss.length < 4000 ∧
  ∀ (p : Addr) (ks : List Str), H p = none → ks.Nodup → (∀ x, x ∈ ks ↔ x ∈ ss) → Q (.ref p) (upd H p (TxO P w p ks))
theorem cr_setTx (hc : X.calm = true) : CallR X (.type "set") (rSetTx X.prog X.w) := by
  intro pins s σ H xs us Q I r h
  obtain ⟨a, ss, rfl, ha, few, q⟩ := h
  obtain ⟨its, rv, pl, _⟩ := I.list (SqL.of ha)
  obtain ⟨u, rfl, ru⟩ := vals1 r
  obtain rfl : u = Value.ref a := ru
  have bound : ss.length + 1 < scanBound := by unfold scanBound; omega
  refine call_set_texts (I.ok.hd hc) pl.isList (xs := ss) (by simpa using rv.strs) bound fun h' tk ks T hm old => ?_
  have new : H s.heap.objs.size = none := I.hok.fresh (Nat.le_refl _)
  exact ⟨.ref s.heap.objs.size, _, I.laid (o := TxO X.prog X.w s.heap.objs.size ks) old (Nat.le_refl _) T.obj, rfl, q _ ks new T.nd hm⟩
def rSortTx (P : Program) (w : World) : List V → Hp → VK → Prop := fun xs H Q => ∃ (a : Addr) (ks : List Str), xs = [V.ref a] ∧ H a = some (TxO P w a ks) ∧ ks.Nodup ∧ ks.length < 4000 ∧
  ∀ p : Addr, H p = none → Q (.ref p) (upd H p (.lst ((sortS ks).map V.str)))
set_option maxHeartbeats 8000000 in
theorem cr_sortTx (hc : X.calm = true) (hu : X.A.units + 64 < cLine) : CallR X (.builtin "sorted") (rSortTx X.prog X.w) := by
  intro pins s σ H xs us Q I r h
  obtain ⟨a, ks, rfl, ha, nd, few, q⟩ := h
  obtain ⟨u, rfl, ru⟩ := vals1 r
  obtain rfl : u = Value.ref a := ru
  obtain ⟨T, _⟩ := I.hok a _ ha
  obtain ⟨D, g, ok, ris, led⟩ := T.ex
  have small : D.1.size < scanBound := by rw [ok.sz]; unfold scanBound; omega
  refine Calls.call_function_entry kind_sorted plain_sorted entry_sorted (args_sorted1 _) (show wpAny _ _ (Builtin.«sorted» _) _ _ _ from ?_)
  unfold Builtin.«sorted»
  refine wpAny_bind (m := checkCount "sorted" 1 1 _) (wpAny_pure (wpAny_bind (collect_set (A := X.A.in1) (I.ok.hd hc) ⟨_, g, rfl, rfl⟩ ok.fit small ris led fun s1 vs old sz gens os pm => ?_)))
  -- the texts, in the order in which they came
  obtain ⟨xs0, st0, mem0⟩ := texts_of ok.el
  obtain ⟨ys, st, py⟩ := strs_perm pm st0
  have len0 : xs0.length = ks.length := by rw [← st0.length, List.length_map, Array.length_toList, ok.sz]
  have p0 : xs0.Perm ks := perm_of_nodup nd (fun x hx => (mem0 x).mpr ((ok.mem x).mp hx)) len0
  have pk : ys.Perm ks := py.trans p0
  have lv : vs.length = ks.length := by rw [st.length, pk.length_eq]
  refine wpAny_bind (wpAny_newList ?_ (by rw [lv]; exact szl (by omega)))
  have hL : (s1.heap.push (seqObj "list" vs.toArray 0)).get? s1.heap.objs.size = some (seqObj "list" vs.toArray 0) := Heap.get?_push_size _ rfl
  obtain ⟨e1, e2⟩ := each_str (h := s1.heap.push (seqObj "list" vs.toArray 0)) (c := s1.heap.objs.size) st
  refine wpAny_bind (wpAny_holding (PySem.W.list_sort_data (s := { s1 with heap := s1.heap.push (seqObj "list" vs.toArray 0) }) (enc := PyData.str) hL e1 e2 (PySem.W.AllAlike.of fun _ _ => rfl) (PySem.W.Sortable.others fun _ => ⟨fun z => (by cases z), fun _ z => (by cases z)⟩)
    (by rw [pk.length_eq]; exact szl (by omega)) (fun x _ => by show X.A.in1.units + 1 + 0 < cLine; have : X.A.in1.units = X.A.units + 1 := rfl; omega) fun out lo eo => ?_))
  obtain ⟨c, hout⟩ := sortedHeap_at (vs := vs) (out := out.toArray) hL
  have same : ys.mergeSort (PySem.W.dataLe false PyData.str) = sortS ks := by
    rw [leS_data]
    exact sortS_one (pk.nodup_iff.mpr nd) nd fun x => pk.mem_iff
  rw [same] at eo
  have keep : ∀ b o, s.heap.get? b = some o → (sortedHeap (s1.heap.push (seqObj "list" vs.toArray 0)) s1.heap.objs.size vs out.toArray).get? b = some o := fun b o e => by
    have z := old b o e
    have lt := Heap.lt_size z
    rw [sortedHeap_old (Nat.ne_of_lt lt) (Nat.lt_of_lt_of_le lt (by rw [Heap.size_push]; exact Nat.le_succ _))]
    exact Heap.get?_push_of_some _ z
  have new : H s1.heap.objs.size = none := I.hok.fresh sz
  have lw : ((sortS ks).map V.str).length ≤ sizeLine := by rw [List.length_map]; unfold sortS; rw [List.length_mergeSort]; exact szl (by omega)
  refine wpAny_pure ⟨_, rfl, .ref s1.heap.objs.size, upd H s1.heap.objs.size (.lst ((sortS ks).map V.str)), ?_, rfl, q _ new⟩
  exact I.call' (ch := []) os (Un.laid keep sz new) (I.hok.laid keep sz ⟨lw, out, c, vals_str eo, hout⟩) (by rw [show _ = s1.gens from rfl, gens]; exact I.bare) (fun _ z => nomatch z)
/-! ### over data -/
def uniq : List Str → List Str
  | [] => []
  | x :: xs => if x ∈ xs then uniq xs else x :: uniq xs
theorem mem_uniq {y : Str} : ∀ {xs : List Str}, y ∈ uniq xs ↔ y ∈ xs
  | [] => Iff.rfl
  | x :: xs => by
    unfold uniq
    split
    · rename_i h
      rw [mem_uniq, List.mem_cons]
      exact ⟨.inr, fun z => z.elim (fun e => e ▸ h) id⟩
    · rw [List.mem_cons, List.mem_cons, mem_uniq]
theorem nodup_uniq : ∀ xs : List Str, (uniq xs).Nodup
  | [] => List.nodup_nil
  | x :: xs => by
    unfold uniq
    split
    · exact nodup_uniq xs
    · rename_i h
      exact List.nodup_cons.mpr ⟨fun z => h (mem_uniq.mp z), nodup_uniq xs⟩
def strsD : List D → Option (List Str)
  | [] => some []
  | .str x :: ds => (strsD ds).map fun l => x :: l
  | _ => none
theorem strsD_rep {K : PySem.W.Frag} {F : Hp} : ∀ {vs : List V} {ds : List D} {xs : List Str}, Reps K F vs ds → strsD ds = some xs → vs = xs.map V.str
  | _, _, _, .nil, e => by cases e; rfl
  | _, _, _, .cons (d := d) h r, e => by
    cases d <;> try (cases e; done)
    obtain ⟨l, e1, e⟩ := Option.map_eq_some_iff.mp e
    cases e
    cases h
    rw [strsD_rep r e1]; rfl
theorem reps_strs {K : PySem.W.Frag} {F : Hp} : ∀ xs : List Str, Reps K F (xs.map V.str) (xs.map D.str)
  | [] => .nil
  | x :: xs => .cons (.str x) (reps_strs xs)
/-- sorted(set(xs)) -/
def sortSetO : D → Option Opd
  | .lst ds => (strsD ds).bind fun xs => if xs.length < 4000 then some (.own (.lst ((sortS (uniq xs)).map D.str))) else none
  | _ => none
theorem dx_sortSet {K : PySem.W.Frag} {P : Program} {w : World} {te : TE} {f : Ev} (h : DX K te f) : DX K (tCB (rSortTx P w) (tCons (tCB (rSetTx P w) (tCons te tNil)) tNil)) (sUn sortSetO f) := by
  intro F σ H ρ wd ρ' Q r0 e k
  obtain ⟨⟨w1, ρ1⟩, e1, e⟩ := Option.bind_eq_some_iff.mp e
  obtain ⟨d, e2, e⟩ := Option.bind_eq_some_iff.mp e
  obtain ⟨w3, e3, e⟩ := Option.map_eq_some_iff.mp e
  cases e
  refine h F σ H ρ w1 ρ1 _ r0 e1 fun x F1 H1 r1 s1 o1 => ?_
  have rb := r1.rd o1 e2
  cases d <;> try (cases e3; done)
  obtain ⟨xs, e4, e3⟩ := Option.bind_eq_some_iff.mp e3
  split at e3
  · rename_i few
    cases e3
    obtain ⟨a, vs, rfl, h1, h2⟩ := rb
    refine ⟨a, xs, rfl, by rw [← strsD_rep h2 e4]; exact h1, few, fun p ks hp nd hm => ?_⟩
    have z := r1.newOwn (o := TxO P w p ks) hp
    have pu : ks.Perm (uniq xs) := (List.perm_ext_iff_of_nodup nd (nodup_uniq xs)).mpr fun x => (hm x).trans mem_uniq.symm
    have lu : ∀ l : List Str, (uniq l).length ≤ l.length := fun l => by
      induction l with
      | nil => exact Nat.le_refl _
      | cons y l ih => unfold uniq; split <;> simp only [List.length_cons] <;> omega
    refine ⟨p, ks, rfl, upd_same, nd, by rw [pu.length_eq]; exact Nat.lt_of_le_of_lt (lu xs) few, fun p2 hp2 => ?_⟩
    rw [sortS_one nd (nodup_uniq xs) fun x => (hm x).trans mem_uniq.symm]
    have z2 := z.1.newOwn (o := .lst ((sortS (uniq xs)).map V.str)) hp2
    have s2 := (s1.trans z.2.1).trans z2.2.1
    exact k _ F1 _ z2.1 s2 ((RO.newL z.1 hp2 (reps_strs _)).base (s1.trans z.2.1).dom)
  · cases e3
end
end Bl
/-! Objects with slots as data; xs.remove(text); a dict taken into another; list(d), sorted(d). -/
namespace Bl
open PySem PySem.Spec PyProof.Rows L2 Evl
section
variable {K : PySem.W.Frag} {as : List Nat}
/-! ### o.f -/
def fldO (c : Str) (i : Nat) : D → Option Opd
  | .obj c' fs => if c' = c then (match fs[i]? with
    | some (some d) => some (.val d)
    | _ => none) else none
  | _ => none
theorem os_get {F : Hp} : ∀ {vs : List (Option V)} {fs : List (Option D)} {i : Nat} {d : D}, RepOs K F vs fs → fs[i]? = some (some d) → ∃ v, vs[i]? = some (some v) ∧ Rep K F v d
  | _, _, i, _, .nil, e => by cases e
  | _, _, 0, _, .some (v := v) h _, e => by cases e; exact ⟨v, rfl, h⟩
  | _, _, 0, _, .none _, e => by cases e
  | _, _, i + 1, d, .some _ r, e => by
    obtain ⟨v, h1, h2⟩ := os_get (i := i) (d := d) r (by simpa using e)
    exact ⟨v, by simpa using h1, h2⟩
  | _, _, i + 1, d, .none r, e => by
    obtain ⟨v, h1, h2⟩ := os_get (i := i) (d := d) r (by simpa using e)
    exact ⟨v, by simpa using h1, h2⟩
theorem rb_obj {F H : Hp} {v : V} {c : Str} {fs : List (Option D)} (h : RB K F H v (.obj c fs)) : ∃ a dx vs, v = .ref a ∧ SlX.Slt F a (He.ga K c) dx vs ∧ RepOs K F vs fs := by
  have h : Rep K F v (.obj c fs) := h
  cases h with
  | obj a b => exact ⟨_, _, _, rfl, a, b⟩
theorem dx_fld {te : TE} {f : Ev} {c x : Str} {i : Nat} {p : Addr} (hc : SlX.SCls K (He.ga K c)) (hs : SlX.Slot1 K (He.ga K c) x p i) (h : DX K te f) : DX K (SlX.tSl K te x) (sUn (fldO c i) f) := by
  intro F σ H ρ w ρ' Q r0 e k
  obtain ⟨⟨w1, ρ1⟩, e1, e⟩ := Option.bind_eq_some_iff.mp e
  obtain ⟨d, e2, e⟩ := Option.bind_eq_some_iff.mp e
  obtain ⟨w3, e3, e⟩ := Option.map_eq_some_iff.mp e
  cases e
  refine h F σ H ρ w1 ρ1 _ r0 e1 fun v F1 H1 r1 s1 o1 => ?_
  have rb := r1.rd o1 e2
  cases d <;> try (cases e3; done)
  rename_i c' fs
  dsimp only [fldO] at e3
  split at e3
  · rename_i hcc
    subst hcc
    split at e3
    · rename_i d' ed
      cases e3
      obtain ⟨a, dx, vs, rfl, g1, g2⟩ := rb_obj rb
      obtain ⟨u, g3, g4⟩ := os_get g2 ed
      exact ⟨a, _, dx, p, vs, i, u, rfl, r1.ex.le.s _ _ _ _ g1, hc, hs, g3, k u F1 H1 r1 s1 g4⟩
    · cases e3
  · cases e3
/-! ### o.m(..) -/
def isCls (c : Str) : D → Bool
  | .obj c' _ => decide (c' = c)
  | _ => false
theorem isCls_obj {c : Str} {d : D} (h : isCls c d = true) : ∃ fs, d = .obj c fs := by
  cases d with
  | obj c' fs => exact ⟨fs, by rw [of_decide_eq_true (show decide (c' = c) = true from h)]⟩
  | _ => cases h
def sMeth (c : Str) (m : List D → Option Opd) (f : Ev) (fs : Evs) : Ev := fun ρ => (f ρ).bind fun p => (rel p.2 p.1).bind fun q => if isCls c q.1 = true then (fs q.2).bind fun z => (m (q.1 :: z.1)).map fun w => (w, z.2) else none
theorem dx_meth {n : Nat} {c : Str} {m : List D → Option Opd} {te : TE} {ta : TA} {f : Ev} {fs : Evs} {E : XK} (h : DX K te f) (hs : DA K ta fs) (hn : ∀ ρ p, fs ρ = some p → p.1.length + 1 = n) :
    DX K (SlX.tMethSl (He.ga K c) (spP K n m) E te ta) (sMeth c m f fs) := by
  intro F σ H ρ w ρ' Q r0 e k
  obtain ⟨⟨w1, ρ1⟩, e1, e⟩ := Option.bind_eq_some_iff.mp e
  obtain ⟨⟨d, ρ2⟩, e2, e⟩ := Option.bind_eq_some_iff.mp e
  dsimp only at e
  split at e
  · rename_i hc
    obtain ⟨⟨ds, ρ3⟩, e3, e⟩ := Option.bind_eq_some_iff.mp e
    obtain ⟨w4, e4, e⟩ := Option.map_eq_some_iff.mp e
    cases e
    refine h F σ H ρ w1 ρ1 _ r0 e1 fun v F1 H1 r1 s1 o1 => ?_
    obtain ⟨F2, r2, s2, rep⟩ := r1.rel s1 o1 e2
    obtain ⟨fs', rfl⟩ := isCls_obj hc
    obtain ⟨a, dx, vs, rfl, g1, g2⟩ := rb_obj (H := H1) (show RB K F2 H1 v (.obj c fs') from rep)
    refine ⟨a, dx, vs, rfl, r2.ex.le.s _ _ _ _ g1, hs F2 σ H1 ρ2 ds ρ3 _ r2 e3 fun us F3 H3 r3 s3 reps => ?_⟩
    refine ⟨F3, .obj c fs' :: ds, w, r3.ex, r3.dom, .cons (rep.mono s3.le) reps, ?_, e4, fun v F' H' exH ex dom le fr rp => ?_⟩
    · rw [List.length_cons, reps.length]; exact hn ρ2 _ e3
    · obtain ⟨r4, s4⟩ := r3.called exH ex dom le fr
      exact k v F' H' r4 ((s2.trans s3).trans s4) (RO.of rp r4 (s2.trans s3).dom fun a ha z => r3.notO ha z)
  · cases e
/-! ### C(..) -/
/-- what __init__ promises: the new instance at x (its dict at dx) becomes the data m tells; all else stays -/
def spNew (K : PySem.W.Frag) (c : Str) (n : Nat) (m : List D → Option D) : Sp := fun vs H Q _ => ∃ x dx us F ds d, vs = .ref x :: us ∧ us.length = n ∧ H x = some (.ins (He.ga K c) dx []) ∧ H dx = some (.own x) ∧ dx ≠ x ∧
  F x = none ∧ F dx = none ∧ Ex F H ∧ (∀ a, H a = none → F a = none) ∧ Reps K F us ds ∧ m ds = some d ∧
  ∀ F' H', (∀ a o, a ≠ x → a ≠ dx → H a = some o → H' a = some o) → Ex F' H' → (∀ a, H' a = none → F' a = none) → Le F F' → (∀ a, H a ≠ none → a ≠ x → a ≠ dx → F' a = F a) → H' x ≠ none → H' dx ≠ none → Rep K F' (.ref x) d → Q .non H'
def sMake (m : List D → Option D) (fs : Evs) : Ev := fun ρ => (fs ρ).bind fun p => (m p.1).map fun d => (.val d, p.2)
theorem dx_make {n : Nat} {c : Str} {m : List D → Option D} {ta : TA} {fs : Evs} {E : XK} (hs : DA K ta fs) (hn : ∀ ρ p, fs ρ = some p → p.1.length = n) : DX K (tMake (He.ga K c) (spNew K c n m) [] E ta) (sMake m fs) := by
  intro F σ H ρ w ρ' Q r0 e k
  obtain ⟨⟨ds, ρ1⟩, e1, e⟩ := Option.bind_eq_some_iff.mp e
  obtain ⟨d, e2, e⟩ := Option.map_eq_some_iff.mp e
  cases e
  refine hs F σ H ρ ds _ _ r0 e1 fun us F1 H1 r1 s1 reps x dx nx nd ne => ?_
  rw [List.append_nil]
  have exH : Ex H1 (upd (upd H1 dx (.own x)) x (.ins (He.ga K c) dx [])) := fun a o h => by
    rw [upd_ne (ne_of_none h nx), upd_ne (ne_of_none h nd)]; exact h
  refine ⟨x, dx, us, F1, ds, d, rfl, reps.length.trans (hn ρ _ e1), upd_same, by rw [upd_ne ne, upd_same], ne, r1.dom x nx, r1.dom dx nd, r1.ex.trans exH, fun a h => ?_, reps, e2, fun F' H' kp ex dom le fr hx hd rep => ⟨rfl, ?_⟩⟩
  · refine r1.dom a ?_
    cases q : H1 a with
    | none => rfl
    | some o => rw [exH a o q] at h; cases h
  · have old : ∀ a o, H1 a = some o → a ≠ x ∧ a ≠ dx := fun a o h => ⟨ne_of_none h nx, ne_of_none h nd⟩
    have exN : Ex H1 H' := fun a o h => kp a o (old a o h).1 (old a o h).2 (exH a o h)
    have frN : ∀ a, H1 a ≠ none → F' a = F1 a := fun a h => by
      obtain ⟨o, q⟩ := Option.ne_none_iff_exists'.mp h
      exact fr a (by rw [exH a o q]; simp) (old a o q).1 (old a o q).2
    obtain ⟨r2, s2⟩ := r1.called exN ex dom le frN
    exact k _ F' H' r2 (s1.trans s2) rep
end
end Bl
namespace Bl
open PySem PySem.Spec PyProof.Rows L2 Evl
section
variable {K : PySem.W.Frag} {as : List Nat}
abbrev subO : D → D → Option Opd := iOp fun i j => some (i - j)
def negD : D → Option Opd
  | .int i => some (.val (.int (-i)))
  | _ => none
theorem ud_neg : UnD K (rU fun i => .int (-i)) negD := by
  intro F σ H ρ x dx w Q r rb e k
  cases dx <;> try (cases e; done)
  cases e
  have h := rb_int rb
  subst h
  exact ⟨_, rfl, k.flat r (.int _)⟩
theorem od_isB : OpD K rIsB isB := by
  intro F σ H ρ x y dx dy w Q r bx bya e k
  cases dx <;> try (cases e; done)
  cases dy <;> try (cases e; done)
  cases e
  rw [rb_bl bx, rb_bl bya]
  exact ⟨_, _, rfl, rfl, k.flat r (.bl _)⟩
/-! ### lengths of arguments -/
theorem ln_nil : ∀ ρ p, sNil ρ = some p → p.1.length = 0 := fun ρ p e => by cases e; rfl
theorem ln_cons {f : Ev} {fs : Evs} {n : Nat} (h : ∀ ρ p, fs ρ = some p → p.1.length = n) : ∀ ρ p, sCons f fs ρ = some p → p.1.length = n + 1 := fun ρ p e => by
  obtain ⟨_, _, e⟩ := Option.bind_eq_some_iff.mp e
  obtain ⟨_, _, e⟩ := Option.bind_eq_some_iff.mp e
  obtain ⟨z, e3, e⟩ := Option.map_eq_some_iff.mp e
  cases e
  exact congrArg (· + 1) (h _ _ e3)
theorem ln_up {fs : Evs} {n : Nat} (h : ∀ ρ p, fs ρ = some p → p.1.length = n) : ∀ ρ p, fs ρ = some p → p.1.length + 1 = n + 1 := fun ρ p e => congrArg (· + 1) (h ρ p e)
theorem spP_len {n : Nat} {m : List D → Option Opd} {vs : List V} {H : Hp} {Q : VK} {E : XK} (h : spP K n m vs H Q E) : vs.length = n := by
  obtain ⟨F, ds, w, _, _, _, hn, _⟩ := h
  exact hn
theorem spP_none {n : Nat} {vs : List V} {H : Hp} {Q : VK} {E : XK} (h : spP K n (fun _ => none) vs H Q E) : False := by
  obtain ⟨F, ds, w, _, _, _, hn, e, _⟩ := h
  cases e
theorem spI_len {n : Nat} {m : D → List D → Option (Opd × D)} {vs : List V} {H : Hp} {Q : VK} {E : XK} (h : spI K n m vs H Q E) : vs.length = n + 1 := by
  obtain ⟨a, us, F, d, ds, w, d', rfl, hn, _⟩ := h
  exact congrArg (· + 1) hn
theorem spNew_len {c : Str} {n : Nat} {m : List D → Option D} {vs : List V} {H : Hp} {Q : VK} {E : XK} (h : spNew K c n m vs H Q E) : vs.length = n + 1 := by
  obtain ⟨x, dx, us, F, ds, d, rfl, hn, _⟩ := h
  exact congrArg (· + 1) hn
theorem fnR_of {P : Program} {w : World} {mg : Str → Option Value} {base : Heap} {k : Nat} {f : Addr} {sp : Sp} {fd : FuncData} {ps : List Str} (F : FnOk P w K mg base CX0 k f fd ps sp) (hb : Binds K fd ps []) : FnR P w K mg base CX0 k f sp :=
  (F.raw hb .nil).imp fun vs H Q E h => by rw [List.append_nil]; exact h
/-! ### a < b < c -/
def sChain (g g' : D → D → Option Opd) (f1 f2 f3 : Ev) : Ev := fun ρ => (f1 ρ).bind fun p => (f2 p.2).bind fun q => (rd q.2 p.1).bind fun a => (rd q.2 q.1).bind fun b => match g a b with
  | some (.val (.bl true)) => (f3 q.2).bind fun z => (rd z.2 q.1).bind fun b' => (rd z.2 z.1).bind fun c => (g' b' c).map fun w => (w, z.2)
  | some (.val (.bl false)) => some (.val (.bl false), q.2)
  | _ => none
theorem dx_chain {r r' : R2} {g g' : D → D → Option Opd} {ta tb tc : TE} {f1 f2 f3 : Ev} (hr : OpD K r g) (hr' : OpD K r' g') (ha : DX K ta f1) (hb : DX K tb f2) (hc : DX K tc f3) : DX K (tChain r r' ta tb tc) (sChain g g' f1 f2 f3) := by
  intro F σ H ρ w ρ' Q r0 e k
  obtain ⟨⟨w1, ρ1⟩, e1, e⟩ := Option.bind_eq_some_iff.mp e
  obtain ⟨⟨w2, ρ2⟩, e2, e⟩ := Option.bind_eq_some_iff.mp e
  obtain ⟨a, e3, e⟩ := Option.bind_eq_some_iff.mp e
  obtain ⟨b, e4, e⟩ := Option.bind_eq_some_iff.mp e
  dsimp only at e e2 e3 e4
  refine ha F σ H ρ w1 ρ1 _ r0 e1 fun x F1 H1 r1 s1 o1 => ?_
  refine hb F1 σ H1 ρ1 w2 ρ2 _ r1 e2 fun y F2 H2 r2 s2 o2 => ?_
  have bx := r2.rd (o1.move s2) e3
  have bya := r2.rd o2 e4
  split at e
  · rename_i eg
    obtain ⟨⟨w3, ρ3⟩, e5, e⟩ := Option.bind_eq_some_iff.mp e
    obtain ⟨b', e6, e⟩ := Option.bind_eq_some_iff.mp e
    obtain ⟨c, e7, e⟩ := Option.bind_eq_some_iff.mp e
    obtain ⟨w4, e8, e⟩ := Option.map_eq_some_iff.mp e
    cases e
    refine hr F2 σ H2 ρ2 x y a b _ _ r2 bx bya eg fun v F3 H3 r3 s3 o3 => ?_
    cases o3
    refine ⟨true, rfl, ?_⟩
    rw [if_pos rfl]
    refine hc F3 σ H3 ρ2 w3 _ _ r3 e5 fun z F4 H4 r4 s4 o4 => ?_
    refine hr' F4 σ H4 _ y z b' c _ _ r4 (r4.rd ((o2.move s3).move s4) e6) (r4.rd o4 e7) e8 fun v F5 H5 r5 s5 o5 => ?_
    have sAll := (((s1.trans s2).trans s3).trans s4).trans s5
    exact k v F5 H5 r5 sAll (RO.base (((s1.trans s2).trans s3).trans s4).dom o5)
  · rename_i eg
    cases e
    refine hr F2 σ H2 _ x y a b _ _ r2 bx bya eg fun v F3 H3 r3 s3 o3 => ?_
    cases o3
    refine ⟨false, rfl, ?_⟩
    rw [if_neg (by decide)]
    exact k _ F3 H3 r3 ((s1.trans s2).trans s3) (.bl _)
  · cases e
end
end Bl
/-! dict(pairs), list(d), sorted(d), xs.remove(text), three names at once, calls by name. -/
namespace Bl
open PySem PySem.Spec PyProof.Rows L2 Evl
section
variable {K : PySem.W.Frag} {as : List Nat}
/-! ### dict(..) of a list, a tuple of pairs -/
def pairsD : List D → Option (List (Key × D))
  | [] => some []
  | .tup [k, v] :: ds => (keyD k).bind fun q => (pairsD ds).map fun l => (q, v) :: l
  | _ => none
theorem pairsD_rep {F : Hp} : ∀ {vs : List V} {ds : List D} {kvs : List (Key × D)}, Reps K F vs ds → pairsD ds = some kvs →
    ∃ (ps : List Addr) (us : List (Key × V)), vs = ps.map V.ref ∧ RepKs K F us kvs ∧ Paired (fun p kv => SqT K F p [kV kv.1, kv.2]) ps us
  | _, _, _, .nil, e => by cases e; exact ⟨[], [], rfl, .nil, .nil⟩
  | _, _, _, .cons (d := d) h r, e => by
    unfold pairsD at e
    split at e
    · rename_i q; cases q
    · rename_i k v ds' q
      injection q with q1 q2
      subst q1 q2
      obtain ⟨z, e1, e⟩ := Option.bind_eq_some_iff.mp e
      obtain ⟨l, e2, e⟩ := Option.map_eq_some_iff.mp e
      cases e
      obtain ⟨ps, us, rfl, g1, g2⟩ := pairsD_rep r e2
      cases h with
      | tup ha _ hr =>
        cases hr with
        | cons hk hr =>
          cases hr with
          | cons hv hr =>
            cases hr
            rename_i a _ vk _ vv
            refine ⟨_ :: ps, (z, vv) :: us, rfl, .cons hv g1, .cons ?_ g2⟩
            have ek := key_rb (H := F) (RB.of (Le.refl _) hk) e1
            rw [← ek]
            exact ha
    · cases e
theorem paired_mono {F H : Hp} (e : Le F H) : ∀ {ps : List Addr} {us : List (Key × V)}, Paired (fun p kv => SqT K F p [kV kv.1, kv.2]) ps us → Paired (fun p kv => SqT K H p [kV kv.1, kv.2]) ps us
  | _, _, .nil => .nil
  | _, _, .cons h t => .cons (e.sqT h) (paired_mono e t)
def dictL : D → Option Opd
  | .lst ds => (pairsD ds).map fun kvs => .own (.dic (mergeD [] kvs))
  | _ => none
theorem ud_dictL : UnD K (fun x H Q => ∃ (a : Addr) (ps : List Addr) (kvs : List (Key × V)), [x] = [V.ref a] ∧ SqL K H a (ps.map V.ref) ∧ Paired (fun p kv => SqT K H p [kV kv.1, kv.2]) ps kvs ∧
    ∀ p, H p = none → Q (.ref p) (upd H p (.dK (mergeK [] kvs)))) dictL := by
  intro F σ H ρ x dx w Q r0 hx e k
  cases dx <;> try (cases e; done)
  obtain ⟨kvs, e1, e⟩ := Option.map_eq_some_iff.mp e
  cases e
  obtain ⟨a, vs, rfl, h1, h2⟩ := hx
  obtain ⟨ps, us, rfl, g1, g2⟩ := pairsD_rep h2 e1
  exact ⟨a, ps, us, rfl, SqL.of h1, paired_mono r0.ex.le g2, fun p hp => k.newD r0 hp (mergeD_rep g1 .nil)⟩
/-- dict(t) of a tuple whose object is told -/
def rDictT (K : PySem.W.Frag) : List V → Hp → VK → Prop := fun xs H Q => ∃ (a : Addr) (ps : List Addr) (kvs : List (Key × V)), xs = [V.ref a] ∧ PlT H a ∧ SqT K H a (ps.map V.ref) ∧
  Paired (fun p kv => SqT K H p [kV kv.1, kv.2]) ps kvs ∧ ∀ p, H p = none → Q (.ref p) (upd H p (.dK (mergeK [] kvs)))
theorem both_of {X : Cx} {pins : List (Addr × Obj)} {σ : L2.St} {H : Hp} {s : Shared} (I : Inv X pins σ H s) : ∀ {ps : List Addr} {kvs : List (Key × V)}, Paired (fun p kv => SqT X.K H p [kV kv.1, kv.2]) ps kvs →
    ∃ (prs : List (Key × Value)) (uv : List (Value × Value)), KV kvs prs ∧ prs.length = ps.length ∧ uv.length = ps.length ∧
      ∀ (j : Nat) (y v : Value), uv[j]? = some (y, v) → ∃ (b : Addr) (q : Key), ps[j]? = some b ∧ IsTup s.heap b #[y, v] ∧ prs[j]? = some (q, v) ∧ (mixKind X.prog X.w).is q y = true
  | _, _, .nil => ⟨[], [], .nil, rfl, rfl, fun j y v e => by cases e⟩
  | _, _, .cons (a := p) (b := kv) h t => by
    obtain ⟨prs, uv, g1, g2, g3, g4⟩ := both_of I t
    obtain ⟨its, rv, ht, _⟩ := I.tuple h
    obtain ⟨y, v, rfl, ry, rz⟩ := vals2 rv
    refine ⟨(kv.1, v) :: prs, (y, v) :: uv, .cons ⟨rfl, rz⟩ g1, by simp [g2], by simp [g3], fun j => ?_⟩
    cases j with
    | zero => intro y' v' e; cases e; exact ⟨p, kv.1, rfl, ht, rfl, kV_is ry⟩
    | succ j =>
      intro y' v' e
      obtain ⟨b, q, w1, w2, w3, w4⟩ := g4 j y' v' (by simpa using e)
      exact ⟨b, q, by simpa using w1, w2, by simpa using w3, w4⟩
theorem cr_dictT {X : Cx} (hc : X.calm = true) : CallR X (.type "dict") (rDictT X.K) := by
  rintro pins s σ H xs us Q I r ⟨a, ps, kvs, rfl, ⟨ob, u0, hob, hnd⟩, hq, hp, q⟩
  obtain ⟨u, rfl, rx⟩ := vals1 r
  cases rx
  obtain ⟨its, rv, ⟨o, ho, hcl, n, hd⟩, hz⟩ := I.tuple hq
  have ei := refs_at rv
  subst ei
  obtain ⟨prs, uv, g1, g2, g3, g4⟩ := both_of I hp
  have e0 : s.heap.get? a = some ob := (I.hok a _ hob).1
  rw [ho] at e0
  cases e0
  have hlen : ps.length ≤ sizeLine := by simpa using hz
  refine PySem.call_dict_pairs (knd := mixKind X.prog X.w) (kvs := prs) (PairArg.tuple a (ps.map Value.ref).toArray (fun j => ps.getD j 0) uv) (I.ok.hd hc) ⟨⟨ob, n, ho, hcl, hnd, hd⟩, by simp [g3], fun j y v e => ?_⟩ ⟨g2.trans g3.symm, fun i y v e => ?_⟩ (by rw [g3]; exact hlen) fun h' tk hd' kp => ?_
  · obtain ⟨b, z, w1, ⟨o', x1, x2, n', x3⟩, _⟩ := g4 j y v e
    refine ⟨by simp [w1], .inl ?_⟩
    have : ps.getD j 0 = b := by simp [w1]
    show s.heap.IsTuple (ps.getD j 0) _
    rw [this]
    exact ⟨o', x1, x2, n', x3⟩
  · obtain ⟨b, z, _, _, w3, w4⟩ := g4 i y v e
    exact ⟨z, w3, w4⟩
  · have big : (s.heap.objs.size == sysModules) = false := by
      rw [beq_eq_false_iff_ne]
      exact Nat.ne_of_gt I.big
    have hl2 : (mergeK [] kvs).length ≤ sizeLine := by
      have := length_mergeK kvs []
      have e2 := g1.length
      simp only [List.length_nil] at this
      omega
    refine ⟨.ref s.heap.objs.size, _, I.laid (o := .dK (mergeK [] kvs)) (t' := tk) (fun b o e => kp b o (fun z => nomatch z) e) (Nat.le_refl _) ?_, rfl, q _ (I.hok.fresh (Nat.le_refl _))⟩
    exact ⟨hl2, big, _, KV.merge g1 .nil, hd'⟩
def dictT : D → Option Opd
  | .tup ds => if allP ds then (pairsD ds).map fun kvs => .own (.dic (mergeD [] kvs)) else none
  | _ => none
theorem ud_dictT : UnD K (fun x => rDictT K [x]) dictT := by
  intro F σ H ρ x dx w Q r0 hx e k
  cases dx <;> try (cases e; done)
  dsimp only [dictT] at e
  split at e
  · rename_i hp
    obtain ⟨kvs, e1, e⟩ := Option.map_eq_some_iff.mp e
    cases e
    obtain ⟨a, vs, rfl, h1, h2, h3⟩ := rb_tup hx
    obtain ⟨ps, us, rfl, g1, g2⟩ := pairsD_rep h2 e1
    exact ⟨a, ps, us, rfl, r0.ex.le.p _ (h3 hp), r0.ex.le.sqT h1, paired_mono r0.ex.le g2, fun p hp => k.newD r0 hp (mergeD_rep g1 .nil)⟩
  · cases e
/-! ### list(d), sorted(d) -/
def dOf : Key → D
  | .inl i => .int i
  | .inr x => .str x
theorem kV_rep {F : Hp} (k : Key) : Rep K F (kV k) (dOf k) := by
  cases k
  · exact .int _
  · exact .str _
theorem keys_rep {F : Hp} : ∀ {us : List (Key × V)} {ds : List (Key × D)}, RepKs K F us ds → Reps K F (us.map fun kv => kV kv.1) (ds.map fun kv => dOf kv.1)
  | _, _, .nil => .nil
  | _, _, .cons _ r => .cons (kV_rep _) (keys_rep r)
def listDicO : D → Option Opd
  | .dic ds => some (.own (.lst (ds.map fun kv => dOf kv.1)))
  | _ => none
theorem ud_listD : UnD K (fun x => rListD [x]) listDicO := by
  intro F σ H ρ x dx w Q r0 hx e k
  cases dx <;> try (cases e; done)
  cases e
  obtain ⟨a, vs, rfl, h1, h2⟩ := hx
  exact ⟨a, vs, rfl, h1, fun q hq => k.newL r0 hq (keys_rep h2)⟩
def txtKs : List (Key × D) → Option (List Str)
  | [] => some []
  | (.inr x, _) :: ds => (txtKs ds).map fun l => x :: l
  | _ => none
theorem txtKs_rep {F : Hp} : ∀ {us : List (Key × V)} {ds : List (Key × D)} {ks : List Str}, RepKs K F us ds → txtKs ds = some ks → us.map (·.1) = ks.map Sum.inr ∧ ks.length = us.length
  | _, _, _, .nil, e => by cases e; exact ⟨rfl, rfl⟩
  | _, _, _, .cons (k := k) _ r, e => by
    cases k with
    | inl i => cases e
    | inr x =>
      obtain ⟨l, e1, e⟩ := Option.map_eq_some_iff.mp e
      cases e
      have := txtKs_rep r e1
      exact ⟨by simp [this.1], by simp [this.2]⟩
theorem rising_le : ∀ {l : List Str} {p : Str}, risingS p l = true → (p :: l).Pairwise (fun a b => leS a b = true)
  | [], p, _ => by simp
  | x :: r, p, h => by
    have h : (!ltCps x.cps.toList p.cps.toList && risingS x r) = true := h
    rw [Bool.and_eq_true] at h
    have t := rising_le h.2
    have hpx : leS p x = true := by
      have h1 := h.1
      rw [ltCps_eq] at h1
      unfold leS
      simpa [List.not_lt] using h1
    refine List.pairwise_cons.mpr ⟨fun y hy => ?_, t⟩
    rcases List.mem_cons.mp hy with rfl | hy
    · exact hpx
    · have := List.rel_of_pairwise_cons t hy
      unfold leS at *
      simp only [decide_eq_true_eq] at *
      exact List.le_trans hpx this
theorem sorted_sortS {ys ks : List Str} (p : ys.Perm ks) (h : sortedS ys = true) : ys = sortS ks := by
  have s1 : ys.Pairwise (fun a b => leS a b = true) := by
    cases ys with
    | nil => exact .nil
    | cons x r => exact rising_le h
  have q : ys.Perm (sortS ks) := p.trans (List.mergeSort_perm ks leS).symm
  exact q.eq_of_pairwise (fun x y _ _ h1 h2 => leS_anti x y h1 h2) s1 (PySem.W.sort_pairwise leS_tot ks)
def sortDicO : D → Option Opd
  | .dic ds => (txtKs ds).bind fun ks => if ks.length < 64 then some (.own (.lst ((sortS ks).map D.str))) else none
  | _ => none
theorem ud_sortedD : UnD K (fun x H Q => ∃ (a : Addr) (kvs : List (Key × V)) (ks : List Str), [x] = [V.ref a] ∧ Rd H a (.dK kvs) ∧ kvs.map (·.1) = ks.map Sum.inr ∧ ks.length < 64 ∧ ∀ ys p, ys.Perm ks → sortedS ys = true → H p = none → Q (.ref p) (upd H p (.lst (ys.map V.str)))) sortDicO := by
  intro F σ H ρ x dx w Q r0 hx e k
  cases dx <;> try (cases e; done)
  obtain ⟨ks, e1, e⟩ := Option.bind_eq_some_iff.mp e
  split at e
  · rename_i hz
    cases e
    obtain ⟨a, vs, rfl, h1, h2⟩ := hx
    refine ⟨a, vs, ks, rfl, Rd.of h1, (txtKs_rep h2 e1).1, hz, fun ys p hp hs hn => ?_⟩
    rw [sorted_sortS hp hs]
    exact k.newL r0 hn (reps_strs _)
  · cases e
/-! ### xs.remove(text) -/
theorem idx_of {y : Str} {ss : List Str} {j : Nat} (h : ss.idxOf? y = some j) : ∃ hj : j < ss.length, ss[j] = y ∧ ∀ m (hm : m < j) (h2 : m < ss.length), ss[m] ≠ y := by
  obtain ⟨h1, h2, h3⟩ := List.findIdx?_eq_some_iff_getElem.mp h
  refine ⟨h1, by simpa using h2, fun m hm h4 => ?_⟩
  have := h3 m hm
  simpa using this
theorem map_erase {α β : Type} (f : α → β) : ∀ (l : List α) (j : Nat), (l.eraseIdx j).map f = (l.map f).eraseIdx j
  | [], _ => rfl
  | _ :: _, 0 => rfl
  | x :: l, j + 1 => by simp [map_erase f l j]
def rRemS : V → List V → Hp → VK → Prop := fun x xs H Q => ∃ (l : Addr) (ss : List Str) (y : Str) (j : Nat), x = .ref l ∧ xs = [.str y] ∧ H l = some (.lst (ss.map V.str)) ∧ ss.idxOf? y = some j ∧ Q .non (upd H l (.lst ((ss.eraseIdx j).map V.str)))
def isTx (y : Str) : Value → Bool
  | .str z _ => decide (z = y)
  | _ => false
theorem vals_tx : ∀ {ss : List Str} {its : List Value}, Vals (ss.map V.str) its → its.length = ss.length ∧ ∀ (i : Nat) (v : Value), its[i]? = some v → ∃ x t, ss[i]? = some x ∧ v = .str x t
  | [], its, r => by cases r; exact ⟨rfl, fun i v e => by cases e⟩
  | x :: ss, its, r => by
    cases r with
    | cons h r =>
      obtain ⟨t, rfl⟩ := h
      obtain ⟨n, q⟩ := vals_tx r
      refine ⟨by simp [n], fun i v e => ?_⟩
      cases i with
      | zero => cases e; exact ⟨x, t, rfl, rfl⟩
      | succ i => obtain ⟨y, u, e1, e2⟩ := q i v (by simpa using e); exact ⟨y, u, by simpa using e1, e2⟩
theorem mt_removeS {X : Cx} : MtM X "list.remove" rRemS := by
  rintro pins s σ H x xs v us Q I rx rxs ⟨l, ss, y, j, rfl, rfl, hl, hj, q⟩
  cases rx
  obtain ⟨u, rfl, t, rfl⟩ := rxs.one
  obtain ⟨z, its, n, r, hn, e⟩ := I.lstM hl
  obtain ⟨r1, r2⟩ := vals_tx r
  rw [List.length_map] at z
  obtain ⟨hjs, hjy, hjn⟩ := idx_of hj
  have hsz : its.toArray.size = ss.length := by rw [List.size_toArray]; exact r1
  have tx : ∀ (m : Nat) (hm : m < its.toArray.size), ∃ t, its.toArray[m] = .str (ss[m]'(hsz ▸ hm)) t := fun m hm => by
    have hm' : m < its.length := by simpa using hm
    obtain ⟨x, t, e1, e2⟩ := r2 m its[m] (List.getElem?_eq_getElem hm')
    have e3 : ss[m]'(hsz ▸ hm) = x := by
      have := List.getElem?_eq_getElem (l := ss) (i := m) (hsz ▸ hm)
      rw [e1] at this
      exact (Option.some.inj this).symm
    exact ⟨t, by rw [e3, ← e2]; simp⟩
  have hj1 : j < its.toArray.size := by rw [hsz]; exact hjs
  refine call_meets PySem.F.slot_list_remove ⟨_, e, rfl⟩ PySem.F.entry_list_remove (PySem.F.args_list_remove_2 _ _)
    (MeetsSeq.list_remove l its.toArray n (.str y t) (isTx y) (fun v hv => ?_) j hj1 ?_ (fun m hm hmj => ?_) (by rw [hsz]; exact z)) ⟨e, ?_⟩
  · obtain ⟨i, hi, rfl⟩ := Array.mem_iff_getElem.mp hv
    obtain ⟨t', e'⟩ := tx i hi
    rw [e']
    exact fun _ _ _ _ _ _ h => wpAny_eqBool_str h
  · obtain ⟨t', e'⟩ := tx j hj1
    rw [e']
    exact decide_eq_true hjy
  · obtain ⟨t', e'⟩ := tx m hm
    rw [e']
    exact decide_eq_false (hjn m hmj (hsz ▸ hm))
  · have r3 := r.eraseIdx j
    rw [← map_erase] at r3
    refine ⟨.non, _, I.lset (its' := its.eraseIdx j) (t' := s.toks) hl e ?_ r3 ?_, rfl, q⟩
    · rw [← List.eraseIdxIfInBounds_toArray]
    · rw [List.length_map]
      have := List.length_eraseIdx_le (l := ss) (i := j)
      omega
end
end Bl
/-! xs.remove(text) as a step, three names at once, calls by keywords alone. -/
namespace Bl
open PySem PySem.Spec PyProof.Rows L2 Evl
section
variable {K : PySem.W.Frag} {as : List Nat}
def sRemove (i : Nat) (f : Ev) : Ev := fun ρ => (ownL ρ i).bind fun _ => (f ρ).bind fun p => (rel p.2 p.1).bind fun q => match q.1 with
  | .str y => (ownL q.2 i).bind fun ds => (strsD ds).bind fun ss => (ss.idxOf? y).map fun j => (.val .non, q.2.set i (some (.o (.lst ((ss.eraseIdx j).map D.str)))))
  | _ => none
theorem dx_remove {te : TE} {f : Ev} (i : Nat) (h : DX K te f) : DX K (tBM K "list" rRemS (tVar i) (tCons te tNil)) (sRemove i f) := by
  intro F σ H ρ w ρ' Q r0 e k
  obtain ⟨d0, e0, e⟩ := Option.bind_eq_some_iff.mp e
  obtain ⟨⟨w1, ρ1⟩, e1, e⟩ := Option.bind_eq_some_iff.mp e
  obtain ⟨⟨d, ρ2⟩, e2, e⟩ := Option.bind_eq_some_iff.mp e
  dsimp only at e
  cases d <;> try (cases e; done)
  rename_i y
  obtain ⟨ds, e3, e⟩ := Option.bind_eq_some_iff.mp e
  obtain ⟨ss, e4, e⟩ := Option.bind_eq_some_iff.mp e
  obtain ⟨j, e5, e⟩ := Option.map_eq_some_iff.mp e
  cases e
  obtain ⟨a, ha, ow⟩ := r0.own i _ (ownL_some e0)
  obtain ⟨_, vs0, hv0, _⟩ := ow
  refine ⟨_, ha, .inl ⟨rfl, vs0, SqL.of hv0⟩, ?_⟩
  refine h F σ H ρ w1 ρ1 _ r0 e1 fun v F1 H1 r1 s1 o1 => ?_
  obtain ⟨F2, r2, s2, rep⟩ := r1.rel s1 o1 e2
  cases rep
  have q := ownL_some e3
  obtain ⟨b, hb, ow⟩ := r2.own i _ q
  have e : some (some (V.ref a)) = some (some (V.ref b)) := ha.symm.trans hb
  cases e
  obtain ⟨fa, vs, hv, hr⟩ := ow
  have ev := strsD_rep hr e4
  subst ev
  have z := r2.mutl q ha (reps_strs (K := K) (F := F2) (ss.eraseIdx j))
  exact ⟨a, ss, y, j, rfl, rfl, hv, e5, k _ F2 _ z.1 (s2.trans z.2) .non⟩
/-! ### x, y, z = a, b, c where y keeps what is its own -/
def sPar3 (i j l : Nat) (f g h : Ev) : Sv := fun ρ => (f ρ).bind fun p => (rel p.2 p.1).bind fun p' => (g p'.2).bind fun q => (fixO q.2 q.1).bind fun q' => (h q'.2).bind fun z => (rel z.2 z.1).bind fun z' =>
  (stO j ((z'.2).set i (some (.v p'.1))) q'.1).map fun ρ1 => .nx (ρ1.set l (some (.v z'.1)))
theorem ds_par3 {ta tb tc : TE} {f g h : Ev} {i j l : Nat} (hi : i ∈ as) (hj : j ∈ as) (hl : l ∈ as) (h1 : DX K ta f) (h2 : DX K tb g) (h3 : DX K tc h) :
    DS K as (tAsg (tTupF (tCons ta (tCons tb (tCons tc tNil)))) (gTup K 3 (gCons (gName i) (gCons (gName j) (gCons (gName l) gNil))))) (sPar3 i j l f g h) := by
  intro F σ H ρ out D r e k
  obtain ⟨⟨w1, ρ1⟩, e1, e⟩ := Option.bind_eq_some_iff.mp e
  obtain ⟨⟨d1, ρ1'⟩, e2, e⟩ := Option.bind_eq_some_iff.mp e
  obtain ⟨⟨w2, ρ2⟩, e3, e⟩ := Option.bind_eq_some_iff.mp e
  obtain ⟨⟨w2', ρ2'⟩, e4, e⟩ := Option.bind_eq_some_iff.mp e
  obtain ⟨⟨w3, ρ3⟩, e5, e⟩ := Option.bind_eq_some_iff.mp e
  obtain ⟨⟨d3, ρ3'⟩, e6, e⟩ := Option.bind_eq_some_iff.mp e
  obtain ⟨ρ4, e7, e⟩ := Option.map_eq_some_iff.mp e
  cases e
  refine h1 F σ H ρ w1 ρ1 _ r e1 fun x F1 H1 r1 s1 o1 => ?_
  obtain ⟨F1', r1', s1', x1⟩ := r1.rel s1 o1 e2
  refine h2 F1' σ H1 ρ1' w2 ρ2 _ r1' e3 fun y F2 H2 r2 s2 o2 => ?_
  obtain ⟨F2', r2', s2', o2', n2⟩ := r2.fix s2 o2 e4
  refine h3 F2' σ H2 ρ2' w3 ρ3 _ r2' e5 fun z F3 H3 r3 s3 o3 => ?_
  obtain ⟨F3', r3', s3', z1⟩ := r3.rel s3 o3 e6
  refine ⟨by show 3 ≤ sizeLine; decide, fun p o hp ho => ?_⟩
  have x2 := (x1.mono s2'.le).mono s3'.le
  have y2 := o2'.move s3'
  -- the tuple, nobody's
  obtain ⟨r5, s5, np, nO⟩ := r3'.newOwn (o := .frz o (.tup [x, y, z])) hp
  refine ⟨p, [x, y, z], rfl, .inl (.inr ⟨o, upd_same⟩), rfl, ?_⟩
  have y5 := y2.move s5
  have z5 := z1.mono s5.le
  have sA := ((s1'.trans s2').trans s3').trans s5
  have t1 := r5.setV i (x2.mono s5.le)
  cases w2' with
  | pl i => exact absurd rfl (n2 i)
  | val d2 =>
    cases e7
    have t2 := t1.1.setV j y5
    have t3 := t2.1.setV l z5
    exact ⟨x, _, rfl, y, _, rfl, z, _, rfl, rfl, k _ _ _ t3.1 (((sA.trans t1.2).trans t2.2).trans t3.2) (((Kp.set hi).trans (Kp.set hj)).trans (Kp.set hl))⟩
  | own d2 =>
    cases e7
    obtain ⟨b, rfl, hb, ob, nb⟩ := y5
    have nb' : ¬ Owned (σ.set i (some x)) (ρ3'.set i (some (.v d1))) b := fun h => (t1.2.sub b h).elim nb ob.there
    have t2 := t1.1.setO j ob nb'
    have sB := sA.trans t1.2
    have sC : Step σ ρ F H ((σ.set i (some x)).set j (some (.ref b))) ((ρ3'.set i (some (.v d1))).set j (some (.o d2))) F3' (upd H3 p (.frz o (.tup [x, .ref b, z]))) := by
      refine ⟨sB.le, sB.keep, sB.dom, sB.frz, fun c hc => ?_⟩
      rcases t2.2 c hc with q | q
      · exact sB.sub c q
      · subst q; exact .inr (s1'.dom _ hb)
    have t3 := t2.1.setV l z5
    exact ⟨x, _, rfl, _, _, rfl, z, _, rfl, rfl, k _ _ _ t3.1 (sC.trans t3.2) (((Kp.set hi).trans (Kp.set hj)).trans (Kp.set hl))⟩
/-! ### f(k = v, ..): keywords alone -/
def permL {α : Type} (z : α) (is : List Nat) (l : List α) : List α := is.map fun i => l.getD i z
def sCallP (is : List Nat) (m : List D → Option Opd) (fs : Evs) : Ev := fun ρ => (fs ρ).bind fun p => (m (permL .non is p.1)).map fun w => (w, p.2)
def tCallP (is : List Nat) (n : Nat) (sp : Sp) (E : XK) (tk : TA) : TE := fun σ H Q => tk σ H fun zs H2 => zs.length = n ∧ sp (permL .non is zs) H2 Q E
theorem permL_vals {is : List Nat} {zs : List V} {ws : List Value} (h : Vals zs ws) : Vals (permL V.non is zs) (permL Value.none is ws) := by
  induction is with
  | nil => exact .nil
  | cons i is ih =>
    refine .cons ?_ ih
    cases e : zs[i]? with
    | none =>
      have e2 : ws[i]? = none := by
        rw [List.getElem?_eq_none_iff] at e ⊢
        rw [← h.length]; exact e
      simp only [List.getD_eq_getElem?_getD, e, e2, Option.getD_none]
      exact rfl
    | some v =>
      obtain ⟨u, e2, r⟩ := h.get e
      simp only [List.getD_eq_getElem?_getD, e, e2, Option.getD_some]
      exact r
theorem permL_reps {F : Hp} {is : List Nat} {zs : List V} {ds : List D} (h : Reps K F zs ds) : Reps K F (permL .non is zs) (permL .non is ds) := by
  induction is with
  | nil => exact .nil
  | cons i is ih =>
    refine .cons ?_ ih
    cases e : ds[i]? with
    | none =>
      have e2 : zs[i]? = none := by
        rw [List.getElem?_eq_none_iff] at e ⊢
        rw [h.length]; exact e
      simp only [List.getD_eq_getElem?_getD, e, e2, Option.getD_none]
      exact .non
    | some v =>
      obtain ⟨u, e2, r⟩ := h.get e
      simp only [List.getD_eq_getElem?_getD, e, e2, Option.getD_some]
      exact r
/-- a def that may be called by these keywords -/
structure ByKw (P : Program) (w : World) (K : PySem.W.Frag) (mg : Str → Option Value) (base : Heap) (k : Nat) (x : Str) (ks : List Str) (is : List Nat) (sp : Sp) : Prop where
  ex : ∃ (f : Addr) (fd : FuncData) (ps : List Str), FnOk P w K mg base L2.CX0 k f fd ps sp ∧ mg x = some (.ref f) ∧ PySem.W.keepIn K (.ref f) = true ∧ KBn K fd ps 0 ks (fun _ ws => permL .none is ws) (fun _ zs => permL .non is zs)
theorem kbn0 {x qual : Str} {params : Arguments} {body : List Stmt} {scope : Scope} {kws : List (Str × V)} {f : Addr} {fd : FuncData} {ps ks : List Str} {is : List Nat} (F : FunD K x qual params body scope [] kws f fd)
    (h : ∀ (kV doc pm : Value) (an : Option Addr) (cdv ct : Value) (ws : List Value), ws.length = ks.length → bindArgs (PySem.W.fnOf x qual params body scope .none kV doc pm an cdv ct) ⟨[], ks.zip ws⟩ = pure (ps.zip (permL .none is ws))) :
    KBn K fd ps 0 ks (fun _ ws => permL .none is ws) (fun _ zs => permL .non is zs) := by
  obtain ⟨_, _, dV, kV, doc, pm, an, cdv, ct, _, rfl, _, _, hD, _⟩ := F.ex
  have ed : dV = .none := by
    rcases hD with ⟨_, e⟩ | ⟨e, _⟩
    · exact e
    · exact absurd rfl e
  subst ed
  constructor
  · intro s us ws _ l1 l2
    obtain rfl := List.length_eq_zero_iff.mp l1
    exact .of_eq (h kV doc pm an cdv ct ws l2)
  · intro vs us zs ws _ r
    exact permL_vals r
theorem pe_byKw {X : Cx} {k j : Nat} {x : Str} {ks : List Str} {is : List Nat} {sp : Sp} {kws : List Keyword} {tk : TA} {p pos : Pos} (c : ByKw X.prog X.w X.K X.mg X.base k x ks is sp) (hr : Room j X.A) (hk : k ≤ j) (hg : Gl X x) (h : PK X kws tk)
    (hall : (backToKw pos (keywordEach kws X.env)).all (·.1.isSome) = true := by rfl) (hks : (backToKw pos (keywordEach kws X.env)).filterMap (·.1) = ks := by rfl) (hd : (x == ("__debug__" : Str)) = false := by decide)
    (hp : ((backTo pos (starEach [] X.env)).any (·.1) || (backToKw pos (keywordEach kws X.env)).any (·.1.isNone)) = false := by rfl) : PE X (.Call (.Name x p) [] kws pos) (tCallP is ks.length sp E0 tk) := by
  obtain ⟨f, fd, ps, F, hm, kp, b⟩ := c.ex
  constructor
  intro pins s σ H Q I hq
  refine wpAny_Call_Name_kw (ld_glob I hg hm (PySem.W.callWith_KW0 (h₀ := X.base) I.ok.mod.kin kp hall (thn (h.run pos pins s σ H _ I hq) ?_) hp) hd)
  rintro ws s2 ⟨zs, H2, I2, rz, hz, q⟩
  refine ⟨I2.kIn, ?_⟩
  rw [hks]
  exact run_fnN (us := []) (vs := []) F (hr.mono hk) b pass0 I2 .nil rz rfl hz q
theorem dx_callP {n : Nat} {m : List D → Option Opd} {ta : TA} {fs : Evs} {E : XK} (is : List Nat) (h : DA K ta fs) (hn : ∀ ρ p, fs ρ = some p → p.1.length = n) : DX K (tCallP is n (spP K is.length m) E ta) (sCallP is m fs) := by
  intro F σ H ρ w ρ' Q r0 e k
  obtain ⟨⟨ds, ρ1⟩, e1, e⟩ := Option.bind_eq_some_iff.mp e
  obtain ⟨w1, e2, e⟩ := Option.map_eq_some_iff.mp e
  cases e
  refine h F σ H ρ ds _ _ r0 e1 fun vs F1 H1 r1 s1 reps => ⟨reps.length.trans (hn ρ _ e1), ?_⟩
  refine ⟨F1, _, w, r1.ex, r1.dom, permL_reps reps, by simp [permL], e2, fun v F' H' exH ex dom le fr rp => ?_⟩
  obtain ⟨r2, s2⟩ := r1.called exH ex dom le fr
  exact k v F' H' r2 (s1.trans s2) (RO.of rp r2 s1.dom fun a ha z => r1.notO ha z)
end
end Bl
/-! dict comprehensions, d.update(e). -/
namespace Bl
open PySem PySem.Spec PyProof.Rows L2 Evl
section
variable {K : PySem.W.Frag} {as : List Nat}
theorem ks_len {F : Hp} : ∀ {us : List (Key × V)} {ds : List (Key × D)}, RepKs K F us ds → us.length = ds.length
  | _, _, .nil => rfl
  | _, _, .cons _ r => congrArg (· + 1) (ks_len r)
def dcL (vs : List Nat) (g : Gs) (t : Tv) (fk f : Ev) : List D → List (Key × D) → En → Option (List (Key × D) × En)
  | [], acc, ρ => some (acc, ρ)
  | d :: ds, acc, ρ => (g d ρ).bind fun ρ1 => (t ρ1).bind fun p => if p.1 = true then (fk p.2).bind fun q => (rel q.2 q.1).bind fun z => (keyD z.1).bind fun key => (f z.2).bind fun y => (rel y.2 y.1).bind fun u =>
      if acc.length < 1000000 then dcL vs g t fk f ds (putD acc key u.1) (mask vs u.2) else none
    else dcL vs g t fk f ds acc (mask vs p.2)
def sDc (s : Src) (ms vs : List Nat) (g : Gs) (t : Tv) (fk f : Ev) : Ev := fun ρ => (s ρ).bind fun p => (dcL vs g t fk f p.1 [] (mask (ms ++ vs) p.2)).map fun q => (.own (.dic q.1), unmask (ms ++ vs) p.2 q.2)
theorem dx_dc {wi : TI} {g : TG} {tt : TT} {tk te : TE} {s : Src} {ms vs is : List Nat} {gs : Gs} {t : Tv} {fk f : Ev} (hi : DI K wi s ms) (hg : DG K g gs is) (his : ∀ j ∈ is, j ∈ vs) (ht : DT K tt t) (hk : DX K tk fk) (he : DX K te f) : DX K (tDc wi g tt tk te vs) (sDc s ms vs gs t fk f) := by
  intro F σ H ρ w ρ' Q r e k
  obtain ⟨⟨ds, ρ1⟩, e1, e⟩ := Option.bind_eq_some_iff.mp e
  obtain ⟨⟨acc, ρe⟩, e2, e⟩ := Option.map_eq_some_iff.mp e
  cases e
  dsimp only at e2
  refine hi F σ H ρ ds ρ1 _ r e1 fun J F1 H1 r1 s1 it p hp => ?_
  have hm : ∀ j ∈ vs, j ∈ ms ++ vs := fun j hj => List.mem_append_right _ hj
  have hmm : ∀ j ∈ ([] : List Nat), j ∈ ms := fun j hj => by cases hj
  have rm := r1.mask hm
  have nOp : ¬ Owned (wipe σ vs) (mask (ms ++ vs) ρ1) p := fun z => by
    obtain ⟨i, d, h1, h2⟩ := z
    obtain ⟨a, h3, h4⟩ := rm.own i d h1
    have e : some (some (V.ref p)) = some (some (V.ref a)) := h2.symm.trans h3
    cases e; exact h4.there hp
  -- the walked thing, from the masked slots
  have it' : ∀ σ' ρ' F' H', R K F' σ' H' ρ' → Step (wipe σ vs) (mask (ms ++ vs) ρ1) F1 H1 σ' ρ' F' H' → Step σ (mask ms ρ1) F1 H1 σ' ρ' F' H' := fun σ' ρ' F' H' r' s' => by
    have sub : ∀ a, Owned (wipe σ vs) (mask (ms ++ vs) ρ1) a → Owned σ (mask ms ρ1) a := fun a z => by
      obtain ⟨i, d, z1, z2⟩ := z
      obtain ⟨z3, z4⟩ := mask_get z1
      refine ⟨i, d, ?_, (wipe_some z2).1⟩
      have hi : i ∉ ms := fun q => z3 (List.mem_append_left _ q)
      have : ∀ (l : List Nat), i ∉ l → (mask l ρ1)[i]? = ρ1[i]? := by
        intro l
        induction l with
        | nil => intro _; rfl
        | cons x l ih => intro hx; simp only [List.mem_cons, not_or] at hx; unfold mask; rw [List.getElem?_set_ne (Ne.symm hx.1)]; exact ih hx.2
      rw [this ms hi]; exact z4
    exact ⟨s'.le, fun a o h n => s'.keep a o h fun z => n (sub a z), s'.dom, fun a h n => s'.frz a h fun z => n (sub a z), fun a z => (s'.sub a z).imp (sub a) id⟩
  refine ⟨fun i m H' => m = ds.length - i ∧ i ≤ ds.length ∧ ∃ ρ' F' ac vac, R K F' (wipe σ vs) H' ρ' ∧ Step (wipe σ vs) (mask (ms ++ vs) ρ1) F1 H1 (wipe σ vs) ρ' F' H' ∧ dcL vs gs t fk f (ds.drop i) ac ρ' = some (acc, ρe) ∧
      H' p = some (.dK vac) ∧ F' p = none ∧ ¬ Owned (wipe σ vs) ρ' p ∧ RepKs K F' vac ac, ⟨_, rfl, Nat.zero_le _, mask (ms ++ vs) ρ1, F1, [], [], ?_, ?_, by simpa using e2, upd_same, r1.dom p hp, nOp, .nil⟩, ?_⟩
  · exact rm.touch (r1.dom p hp) nOp
  · exact (Step.refl _ _ _ _).touch hp
  rintro i m H2 ⟨rfl, hi2, ρ2, F2, ac, vac, r2, s2, e3, hD, fD, nD, reps⟩
  have it2 := it (wipe σ vs) ρ2 F2 H2 r2 (it' _ _ _ _ r2 s2)
  by_cases hlt : i < ds.length
  · have hd : ds[i]? = some ds[i] := by simp [hlt]
    rw [List.drop_eq_getElem_cons hlt] at e3
    obtain ⟨ρ3, e4, e3⟩ := Option.bind_eq_some_iff.mp e3
    obtain ⟨⟨b, ρ4⟩, e5, e3⟩ := Option.bind_eq_some_iff.mp e3
    obtain ⟨go, yl⟩ := it2.1 i _ hd
    refine .inr ⟨go, fun H' => ∃ ρ' F' ac vac, R K F' (wipe σ vs) H' ρ' ∧ Step (wipe σ vs) (mask (ms ++ vs) ρ1) F1 H1 (wipe σ vs) ρ' F' H' ∧ dcL vs gs t fk f (ds.drop (i + 1)) ac ρ' = some (acc, ρe) ∧
      H' p = some (.dK vac) ∧ F' p = none ∧ ¬ Owned (wipe σ vs) ρ' p ∧ RepKs K F' vac ac, fun H' h => ⟨_, by omega, rfl, hlt, h⟩, fun x H'' hy => ?_⟩
    obtain ⟨F3, r3, s3, rep⟩ := yl x H'' hy
    refine hg F3 (wipe σ vs) H'' ρ2 x _ ρ3 _ r3 rep e4 fun σ4 F4 H4 r4 s4 o4 l4 => ?_
    have hw : wipe σ4 vs = wipe σ vs := by
      have h1 : wipe σ4 vs = wipe (wipe σ vs) vs := wipe_eq l4 fun j hj => o4 j fun z => hj (his j z)
      rw [h1]
      exact wipe_eq (wipe_length _ _) fun j hj => wipe_get hj
    refine ⟨hw, ?_⟩
    have s34 := s3.trans s4
    refine ht F4 σ4 H4 ρ3 b ρ4 _ r4 e5 fun F5 H5 r5 s5 => ?_
    have s35 := s34.trans s5
    have s15 := s2.trans s35
    have keepP : ∀ {σx : L2.St} {ρx : En} {Fx Hx : Hp}, Step (wipe σ vs) ρ2 F2 H2 σx ρx Fx Hx → Hx p = some (.dK vac) ∧ Fx p = none ∧ ¬ Owned σx ρx p := fun sx =>
      ⟨sx.keep p _ hD nD, (sx.frz p (by rw [hD]; simp) nD).trans fD, fun z => (sx.sub p z).elim nD (by rw [hD]; simp)⟩
    cases b with
    | false =>
      rw [if_neg (show ¬ (false, ρ4).fst = true from Bool.false_ne_true)] at e3
      show ∃ ρ', _
      obtain ⟨q1, q2, q3⟩ := keepP (s35.again hw)
      exact ⟨mask vs ρ4, F5, ac, vac, r5.again hw, s15.again hw, e3, q1, q2, q3, RepKs.mono s35.le reps⟩
    | true =>
      rw [if_pos rfl] at e3 ⊢
      obtain ⟨⟨w6, ρ6⟩, e6, e3⟩ := Option.bind_eq_some_iff.mp e3
      obtain ⟨⟨d7, ρ7⟩, e7, e3⟩ := Option.bind_eq_some_iff.mp e3
      obtain ⟨key, ek, e3⟩ := Option.bind_eq_some_iff.mp e3
      obtain ⟨⟨w8, ρ8⟩, e8, e3⟩ := Option.bind_eq_some_iff.mp e3
      obtain ⟨⟨d9, ρ9⟩, e9, e3⟩ := Option.bind_eq_some_iff.mp e3
      dsimp only at e3
      split at e3
      · rename_i hz
        refine hk F5 σ4 H5 ρ4 w6 ρ6 _ r5 e6 fun y F6 H6 r6 s6 o6 => ?_
        obtain ⟨F7, r7, s7, rep7⟩ := r6.rel s6 o6 e7
        refine he F7 σ4 H6 ρ7 w8 ρ8 _ r7 e8 fun v F8 H8 r8 s8 o8 => ?_
        obtain ⟨F9, r9, s9, rep9⟩ := r8.rel s8 o8 e9
        have s39 := (s35.trans s7).trans s9
        obtain ⟨q1, q2, q3⟩ := keepP (s39.again hw)
        have ey := key_rb (H := F7) (RB.of (Le.refl _) rep7) ek
        have hl := ks_len reps
        refine ⟨vac, key, ey, q1, szlt (by omega), mask vs ρ9, F9, putD ac key d9, putK vac key v, (r9.again hw).touch q2 q3, ((s2.trans s39).again hw).touch hp, e3, upd_same, q2, q3, putD_rep rep9 (RepKs.mono s39.le reps)⟩
      · cases e3
  · have ei : i = ds.length := by omega
    subst ei
    rw [List.drop_length] at e3
    cases e3
    refine .inl ⟨it2.2, ?_⟩
    obtain ⟨r8, s8⟩ := r1.unmask hm s2 r2
    refine k _ F2 H2 r8 (s1.trans s8) ⟨p, rfl, s1.dom p hp, ⟨fD, vac, hD, reps⟩, fun z => ?_⟩
    rcases s8.sub p z with q | q
    · obtain ⟨i, d, z1, z2⟩ := q
      obtain ⟨a, z3, z4⟩ := r1.own i d z1
      have e : some (some (V.ref p)) = some (some (V.ref a)) := z2.symm.trans z3
      cases e; exact z4.there hp
    · -- it was new when the walk began
      obtain ⟨i, d, z1, z2⟩ := z
      rcases unmask_get z1 with ⟨h3, h4⟩ | ⟨h3, h4⟩
      · obtain ⟨a, z3, z4⟩ := r1.own i d h4
        have e : some (some (V.ref p)) = some (some (V.ref a)) := z2.symm.trans z3
        cases e; exact z4.there hp
      · exact nD ⟨i, d, h4, by rw [wipe_get fun q => h3 (hm i q)]; exact z2⟩
/-! ### d.update(e) -/
def rUpd : V → List V → Hp → VK → Prop := fun x xs H Q => ∃ (d o : Addr) (kvs more : List (Key × V)), x = .ref d ∧ xs = [.ref o] ∧ d ≠ o ∧ H d = some (.dK kvs) ∧ H o = some (.dK more) ∧ kvs.length + more.length ≤ sizeLine ∧ Q .non (upd H d (.dK (mergeK kvs more)))
theorem mt_updateD {X : Cx} : MtM X "dict.update" rUpd := by
  rintro pins s σ H x xs v us Q I rx rxs ⟨d, o, kvs, more, rfl, rfl, hne, hd, ho, hz, q⟩
  cases rx
  obtain ⟨u, rfl, ru⟩ := rxs.one
  cases ru
  obtain ⟨z1, m1, vs1, k1, D1⟩ := I.hok d _ hd
  obtain ⟨z2, m2, vs2, k2, D2⟩ := I.hok o _ ho
  have l1 := k1.length
  have l2 := k2.length
  refine call_meetsIn PySem.F.slot_dict_update D1.typeIs PySem.F.entry_dict_update (PySem.F.args_dict_update_2 _ _) (meets_dict_update (mixKind X.prog X.w) d o hne m2) ⟨vs1, vs2, D1, D2, by omega, fun h' e1 _ sb => ?_⟩
  refine ⟨.non, _, d_write (ob := .dK (mergeK kvs more)) (t' := s.toks) I (by rw [hd]; trivial) sb ?_ (dk_new ?_ m1 (KV.merge k2 k1) e1), rfl, q⟩
  · obtain ⟨ob, _, _, e, _⟩ := e1
    exact ⟨ob, e⟩
  · have := length_mergeK more kvs
    omega
def sUpd (i : Nat) (f : Ev) : Ev := fun ρ => (ownD ρ i).bind fun _ => (f ρ).bind fun p => (rel p.2 p.1).bind fun q => match q.1 with
  | .dic more => (ownD q.2 i).bind fun ds => if ds.length + more.length ≤ 1000000 then some (.val .non, q.2.set i (some (.o (.dic (mergeD ds more))))) else none
  | _ => none
theorem dx_upd {te : TE} {f : Ev} (i : Nat) (h : DX K te f) : DX K (tBM K "dict" rUpd (tVar i) (tCons te tNil)) (sUpd i f) := by
  intro F σ H ρ w ρ' Q r0 e k
  obtain ⟨d0, e0, e⟩ := Option.bind_eq_some_iff.mp e
  obtain ⟨⟨w1, ρ1⟩, e1, e⟩ := Option.bind_eq_some_iff.mp e
  obtain ⟨⟨d, ρ2⟩, e2, e⟩ := Option.bind_eq_some_iff.mp e
  dsimp only at e
  cases d <;> try (cases e; done)
  rename_i more
  obtain ⟨ds, e3, e⟩ := Option.bind_eq_some_iff.mp e
  split at e
  · rename_i hz
    cases e
    obtain ⟨a, ha, ow⟩ := r0.own i _ (ownD_some e0)
    obtain ⟨_, vs0, hv0, _⟩ := ow
    refine ⟨_, ha, .inr (.inr (.inl ⟨rfl, .inl ⟨vs0, hv0⟩⟩)), ?_⟩
    refine h F σ H ρ w1 ρ1 _ r0 e1 fun v F1 H1 r1 s1 o1 => ?_
    obtain ⟨F2, r2, s2, rep⟩ := r1.rel s1 o1 e2
    have q := ownD_some e3
    obtain ⟨b, hb, ow⟩ := r2.own i _ q
    have e : some (some (V.ref a)) = some (some (V.ref b)) := ha.symm.trans hb
    cases e
    obtain ⟨fa, vs, hv, hr⟩ := ow
    cases rep with
    | dic hF hr2 =>
      rename_i o us
      have z := r2.mutd q ha (mergeD_rep hr2 hr)
      refine ⟨a, o, vs, us, rfl, rfl, fun z => (by rw [z, hF] at fa; cases fa), hv, r2.ex _ _ hF, ?_, k _ F2 _ z.1 (s2.trans z.2) .non⟩
      have l1 := ks_len hr
      have l2 := ks_len hr2
      exact szl (by omega)
  · cases e
/-! ### {} -/
def sNewD : Ev := fun ρ => some (.own (.dic []), ρ)
theorem dx_newD : DX K tDNewK sNewD := by
  intro F σ H ρ w ρ' Q r0 e k
  cases e
  intro p hp
  have z := r0.newOwn (o := .dK []) hp
  exact k _ _ _ z.1 z.2.1 (RO.newD r0 hp .nil)
end
end Bl
/-! An instance that is being made: its slots, dicts in its slots; a walk over a tuple. -/
namespace Bl
open PySem PySem.Spec PyProof.Rows L2 Evl
/-- o.f as a target -/
def gSl (K : PySem.W.Frag) (to : TE) (f : Str) : TG := fun v σ H Q => to σ H fun x H2 => ∃ a C dx p vs i, x = .ref a ∧ SlX.Slt H2 a C dx vs ∧ SlX.SCls K C ∧ SlX.Slot1 K C f p i ∧ Q σ (SlX.slH H2 a C dx (SlX.putS i v vs))
theorem pg_sl {X : Cx} {o : Expr} {to : TE} {f : Str} {pos : Pos} (ho : PE X o to) : PG X (.Attribute o f pos) (gSl X.K to f) := by
  constructor
  intro pins s σ H v u Q I r h
  rw [assign_Attribute]
  refine wpAny_bind (wpAny_holding (thn (ho.run pins s σ H _ I h) ?_))
  rintro ov s1 ⟨x, H1, I1, r1, a, C, dx, p, vs, i, rfl, hs, c, t, q⟩
  cases r1
  refine wpAny_bind (wpAny_standAt (wpAny_bind (wpAny_holding ?_)))
  exact SlX.setslot_ok I1 hs c t r fun s3 I3 => wpAny_release ⟨σ, _, I3, q⟩
/-- for .. in a tuple -/
theorem for_tuple {K : PySem.W.Frag} {te : TE} {g : TG} {tb : TS} {D : Ends} {σ : L2.St} {H : Hp} {a : Addr} {va : List V} (he : ∀ Q : VK, Q (.ref a) H → te σ H Q) (hs : SqT K H a va) (W : Nat → L2.St → Hp → Prop) (h0 : W 0 σ H)
    (hS : ∀ i σ' H', W i σ' H' → SqT K H' a va) (turn : ∀ i x σ' H', W i σ' H' → va[i]? = some x → g x σ' H' fun σ2 H2 => tb { D with nx := W (i + 1), ct := W (i + 1), bk := D.nx } σ2 H2)
    (fin : ∀ σ' H', W va.length σ' H' → D.nx σ' H') : tFor (iSeq K te) g tb D σ H := by
  refine he _ ⟨a, rfl, .inr ⟨va, hs, fun i m σ' H' => m = va.length - i ∧ i ≤ va.length ∧ W i σ' H', ⟨_, rfl, Nat.zero_le _, h0⟩, ?_⟩⟩
  rintro i m σ' H' ⟨rfl, hi, w⟩
  have q := hS i σ' H' w
  by_cases hlt : i < va.length
  · refine .inr ⟨⟨va, va[i], q, by simp [hlt]⟩, W (i + 1), fun σ2 H2 h => ⟨_, by omega, rfl, hlt, h⟩, ?_⟩
    rintro x H'' ⟨rfl, hx⟩
    exact turn i x σ' _ w (hx va q)
  · have e : i = va.length := by omega
    subst e
    exact .inl ⟨⟨va, q, Nat.le_refl _⟩, fin σ' H' w⟩
section
variable {K : PySem.W.Frag} {c : Str} {F0 H0 F F' H H' : Hp} {x dx p q : Addr} {σ σ' : L2.St} {ρ ρ' : En} {vs vs' : List (Option V)} {kvs : List (Key × V)} {ds : List (Key × D)}
/-- the instance at x (its dict at dx) is being made: F0, H0 as the call began -/
structure Ob (K : PySem.W.Frag) (c : Str) (F0 H0 : Hp) (x dx : Addr) (F : Hp) (σ : L2.St) (H : Hp) (ρ : En) (vs : List (Option V)) : Prop where
  r : R K F σ H ρ
  at_ : SlX.Slt H x (He.ga K c) dx vs
  hd : H dx ≠ none
  fx : F x = none
  fd : F dx = none
  nx : ¬ Owned σ ρ x
  nd : ¬ Owned σ ρ dx
  ne : dx ≠ x
  s0 : σ[0]? = some (some (.ref x))
  le : Le F0 F
  keep : ∀ a o, a ≠ x → a ≠ dx → H0 a = some o → H a = some o
  dom : ∀ a, H a = none → H0 a = none
  frz : ∀ a, H0 a ≠ none → a ≠ x → a ≠ dx → F a = F0 a
  new : ∀ a, a ≠ x → a ≠ dx → Owned σ ρ a → H0 a = none
theorem slt_at (h : SlX.Slt H x p dx vs) : ∃ o, H x = some o := by
  rcases h with ⟨h, _⟩ | ⟨h, _⟩
  · exact ⟨_, h⟩
  · exact ⟨_, h⟩
theorem slt_keep {C : Addr} (h : SlX.Slt H x C dx vs) (h1 : H' x = H x) (h2 : H' dx = H dx) : SlX.Slt H' x C dx vs := by
  rcases h with ⟨a, b⟩ | ⟨a, b⟩
  · exact .inl ⟨h1.trans a, b⟩
  · exact .inr ⟨h1.trans a, h2.trans b⟩
theorem Step.stay (s : Step σ ρ F H σ' ρ' F' H') {a : Addr} (h : H a ≠ none) (n : ¬ Owned σ ρ a) : H' a = H a := by
  obtain ⟨o, e⟩ := Option.ne_none_iff_exists'.mp h
  rw [e]; exact s.keep a o e n
theorem Ob.hx (o : Ob K c F0 H0 x dx F σ H ρ vs) : H x ≠ none := by
  obtain ⟨u, e⟩ := slt_at o.at_
  rw [e]; simp
theorem Ob.step (o : Ob K c F0 H0 x dx F σ H ρ vs) (r' : R K F' σ' H' ρ') (s : Step σ ρ F H σ' ρ' F' H') (h0 : σ'[0]? = σ[0]?) : Ob K c F0 H0 x dx F' σ' H' ρ' vs where
  r := r'
  at_ := slt_keep o.at_ (s.stay o.hx o.nx) (s.stay o.hd o.nd)
  hd := by rw [s.stay o.hd o.nd]; exact o.hd
  fx := (s.frz x o.hx o.nx).trans o.fx
  fd := (s.frz dx o.hd o.nd).trans o.fd
  nx := fun z => (s.sub x z).elim o.nx o.hx
  nd := fun z => (s.sub dx z).elim o.nd o.hd
  ne := o.ne
  s0 := h0.trans o.s0
  le := o.le.trans s.le
  keep := fun a u h1 h2 h => s.keep a u (o.keep a u h1 h2 h) fun z => by rw [o.new a h1 h2 z] at h; cases h
  dom := fun a h => o.dom a (s.dom a h)
  frz := fun a h h1 h2 => (s.frz a (fun z => h (o.dom a z)) fun z => h (o.new a h1 h2 z)).trans (o.frz a h h1 h2)
  new := fun a h1 h2 z => (s.sub a z).elim (o.new a h1 h2) (o.dom a)
/-- another object's turn, new since the call began -/
theorem Ob.touch (o : Ob K c F0 H0 x dx F σ H ρ vs) {u : HO} (h0 : H0 p = none) (fp : F p = none) (np : ¬ Owned σ ρ p) (h1 : p ≠ x) (h2 : p ≠ dx) : Ob K c F0 H0 x dx F σ (upd H p u) ρ vs where
  r := o.r.touch fp np
  at_ := slt_keep o.at_ (upd_ne h1.symm) (upd_ne h2.symm)
  hd := by rw [upd_ne h2.symm]; exact o.hd
  fx := o.fx
  fd := o.fd
  nx := o.nx
  nd := o.nd
  ne := o.ne
  s0 := o.s0
  le := o.le
  keep := fun a w h3 h4 h => by rw [upd_ne (fun z => by rw [z, h0] at h; cases h)]; exact o.keep a w h3 h4 h
  dom := fun a h => by
    by_cases z : a = p
    · rw [z]; exact h0
    · rw [upd_ne z] at h; exact o.dom a h
  frz := o.frz
  new := o.new
theorem Ob.slot (o : Ob K c F0 H0 x dx F σ H ρ vs) (vs' : List (Option V)) : Ob K c F0 H0 x dx F σ (SlX.slH H x (He.ga K c) dx vs') ρ vs' where
  r := (o.r.touch o.fd o.nd).touch o.fx o.nx
  at_ := .inr ⟨upd_same, (upd_ne o.ne).trans upd_same⟩
  hd := by unfold SlX.slH; rw [upd_ne o.ne, upd_same]; simp
  fx := o.fx
  fd := o.fd
  nx := o.nx
  nd := o.nd
  ne := o.ne
  s0 := o.s0
  le := o.le
  keep := fun a w h3 h4 h => by unfold SlX.slH; rw [upd_ne h3, upd_ne h4]; exact o.keep a w h3 h4 h
  dom := fun a h => by
    unfold SlX.slH at h
    by_cases h3 : a = x
    · subst h3; rw [upd_same] at h; cases h
    · rw [upd_ne h3] at h
      by_cases h4 : a = dx
      · subst h4; rw [upd_same] at h; cases h
      · rw [upd_ne h4] at h; exact o.dom a h
  frz := o.frz
  new := o.new
/-- a dict beside: at p, nobody's -/
structure Sd (K : PySem.W.Frag) (F : Hp) (σ : L2.St) (H : Hp) (ρ : En) (p : Addr) (kvs : List (Key × V)) (ds : List (Key × D)) : Prop where
  at_ : H p = some (.dK kvs)
  fp : F p = none
  np : ¬ Owned σ ρ p
  rep : RepKs K F kvs ds
theorem Sd.there (d : Sd K F σ H ρ p kvs ds) : H p ≠ none := by rw [d.at_]; simp
theorem Sd.step (d : Sd K F σ H ρ p kvs ds) (s : Step σ ρ F H σ' ρ' F' H') : Sd K F' σ' H' ρ' p kvs ds :=
  ⟨s.keep p _ d.at_ d.np, (s.frz p d.there d.np).trans d.fp, fun z => (s.sub p z).elim d.np d.there, RepKs.mono s.le d.rep⟩
theorem Sd.touch (d : Sd K F σ H ρ p kvs ds) {u : HO} (h : p ≠ q) : Sd K F σ (upd H q u) ρ p kvs ds := ⟨(upd_ne h).trans d.at_, d.fp, d.np, d.rep⟩
theorem Sd.slot (d : Sd K F σ H ρ p kvs ds) {C : Addr} (h1 : p ≠ x) (h2 : p ≠ dx) : Sd K F σ (SlX.slH H x C dx vs') ρ p kvs ds := ⟨((upd_ne h1).trans (upd_ne h2)).trans d.at_, d.fp, d.np, d.rep⟩
/-- self.f = e -/
theorem ob_set {te : TE} {g : Ev} {f : Str} {i : Nat} {ps : Addr} {E : Ends} {w : Opd} {ρ1 : En} {d : D} (o : Ob K c F0 H0 x dx F σ H ρ vs) (hc : SlX.SCls K (He.ga K c)) (hs : SlX.Slot1 K (He.ga K c) f ps i) (h : DX K te g) (e1 : g ρ = some (w, ρ1)) (e2 : rel ρ1 w = some (d, ρ'))
    (k : ∀ y F' H', Ob K c F0 H0 x dx F' σ H' ρ' (SlX.putS i y vs) → Rep K F' y d → Le F F' → E.nx σ H') : SlX.sSl K (tVar 0) te f E σ H := by
  refine h F σ H ρ w ρ1 _ o.r e1 fun y F1 H1 r1 s1 o1 => ?_
  obtain ⟨F2, r2, s2, rep⟩ := r1.rel s1 o1 e2
  have o2 := o.step r2 s2 rfl
  exact ⟨_, o2.s0, x, _, dx, ps, vs, i, rfl, o2.at_, hc, hs, k y F2 _ (o2.slot _) rep s2.le⟩
end
end Bl
/-! xs or ys (lists, by truth); a def that changes its first argument, called with a new list. -/
namespace Bl
open PySem PySem.Spec PyProof.Rows L2 Evl
section
variable {K : PySem.W.Frag} {as : List Nat}
def sOrT (f g : Ev) : Ev := fun ρ => (f ρ).bind fun p => match rd p.2 p.1 with
  | some (.lst []) => g p.2
  | some (.lst (_ :: _)) => some p
  | _ => none
theorem dx_orT {ta tb : TE} {f g : Ev} (h1 : DX K ta f) (h2 : DX K tb g) : DX K (tOrT K ta tb) (sOrT f g) := by
  intro F σ H ρ w ρ' Q r0 e k
  obtain ⟨⟨w1, ρ1⟩, e1, e⟩ := Option.bind_eq_some_iff.mp e
  refine h1 F σ H ρ w1 ρ1 _ r0 e1 fun x F1 H1 r1 s1 o1 => ?_
  dsimp only at e
  split at e
  · rename_i e2
    obtain ⟨a, vs, rfl, hv, hr⟩ := r1.rd o1 e2
    cases hr
    refine ⟨false, .inl ⟨[], SqL.of hv, rfl⟩, ?_⟩
    rw [if_neg (by decide)]
    exact h2 F1 σ H1 ρ1 w ρ' _ r1 e fun y F2 H2 r2 s2 o2 => k y F2 H2 r2 (s1.trans s2) (RO.base s1.dom o2)
  · rename_i d ds e2
    cases e
    obtain ⟨a, vs, rfl, hv, hr⟩ := r1.rd o1 e2
    cases hr with
    | cons h t =>
      refine ⟨true, .inl ⟨_, SqL.of hv, rfl⟩, ?_⟩
      rw [if_pos rfl]
      exact k _ F1 H1 r1 s1 o1
  · cases e
/-- f(new list, ..) -/
def sCallT (m : D → List D → Option (Opd × D)) (f : Ev) (fs : Evs) : Ev := fun ρ => (f ρ).bind fun p => match p.1 with
  | .own d => (fs p.2).bind fun q => (m d q.1).map fun z => (z.1, q.2)
  | _ => none
theorem dx_callT {n : Nat} {m : D → List D → Option (Opd × D)} {te : TE} {ta : TA} {f : Ev} {fs : Evs} {E : XK} (h0 : DX K te f) (h : DA K ta fs) (hn : ∀ ρ p, fs ρ = some p → p.1.length = n) : DX K (tCall (spI K n m) [] E (tCons te ta)) (sCallT m f fs) := by
  intro F σ H ρ w ρ' Q r0 e k
  obtain ⟨⟨w1, ρ1⟩, e1, e⟩ := Option.bind_eq_some_iff.mp e
  dsimp only at e
  split at e
  · rename_i d
    obtain ⟨⟨ds, ρ2⟩, e2, e⟩ := Option.bind_eq_some_iff.mp e
    obtain ⟨⟨w3, d'⟩, e3, e⟩ := Option.map_eq_some_iff.mp e
    cases e
    refine h0 F σ H ρ _ ρ1 _ r0 e1 fun v F1 H1 r1 s1 o1 => ?_
    refine h F1 σ H1 ρ1 ds _ _ r1 e2 fun vs F2 H2 r2 s2 reps => ?_
    have s12 := s1.trans s2
    obtain ⟨a, rfl, ha, ow, na⟩ := o1.move s2
    show spI K n m (V.ref a :: vs ++ []) H2 Q E
    rw [List.append_nil]
    refine ⟨a, vs, F2, d, ds, _, d', rfl, reps.length.trans (hn ρ1 _ e2), r2.ex, r2.dom, ow, reps, e3, fun v F' H' kp ex dom le fr ow' rp => ?_⟩
    have dm : ∀ b, H' b = none → H2 b = none := fun b hb => by
      cases z : H2 b with
      | none => rfl
      | some o =>
        by_cases q : b = a
        · subst q; exact absurd hb ow'.there
        · rw [kp b o q z] at hb; cases hb
    have r3 : R K F' σ H' ρ2 := by
      refine ⟨ex, dom, r2.len, fun i y q => ?_, fun i y q => ?_, r2.sep⟩
      · obtain ⟨u, q1, q2⟩ := r2.val i y q
        exact ⟨u, q1, q2.mono le⟩
      · obtain ⟨b, q1, q2⟩ := r2.own i y q
        have hb : b ≠ a := fun z => na ⟨i, y, q, z ▸ q1⟩
        refine ⟨b, q1, q2.move le (fr b q2.there) ?_⟩
        obtain ⟨o, eo⟩ := Option.ne_none_iff_exists'.mp q2.there
        rw [eo]; exact kp b o hb eo
    have s3 : Step σ ρ F H σ ρ2 F' H' := by
      refine ⟨s12.le.trans le, fun b o q1 q2 => kp b o (fun z => by rw [z, ha] at q1; cases q1) (s12.keep b o q1 q2), fun b q => s12.dom b (dm b q), fun b q1 q2 => ?_, s12.sub⟩
      rw [← s12.frz b q1 q2]
      exact fr b fun z => q1 (s12.dom b z)
    exact k v F' H' r3 s3 (RO.of rp r3 s12.dom fun b hb z => r2.notO hb z)
  · cases e
end
end Bl
/-! A look at own things: what is told is flat, so the things stay own. -/
namespace Bl
open PySem PySem.Spec PyProof.Rows L2 Evl
def giveL : List Nat → En → En
  | [], ρ => ρ
  | i :: is, ρ => giveL is (match ρ[i]? with
    | some (some (.o d)) => ρ.set i (some (.v d))
    | _ => ρ)
def flatL : D → Bool
  | .lst ds => ds.all flatD
  | _ => false
/-- a slot before and behind a look -/
def bor1 : Option Ent → Option Ent → Option (Option Ent)
  | some (.o _), some e => if flatL e.d = true then some (some (.o e.d)) else none
  | some (.o _), none => none
  | x, _ => some x
def borL : En → En → Option En
  | [], _ => some []
  | x :: ρ, ρ1 => (bor1 x (ρ1.headD none)).bind fun y => (borL ρ ρ1.tail).map fun l => y :: l
def sBor (is : List Nat) (f : Ev) : Ev := fun ρ => (f (giveL is ρ)).bind fun p => match p.1 with
  | .val d => if flatD d = true then (borL (giveL is ρ) p.2).map fun ρ' => (.val d, ρ') else none
  | _ => none
section
variable {K : PySem.W.Frag} {F F' H H' : Hp} {σ : L2.St}
theorem R.giveL : ∀ (is : List Nat) {ρ : En} {F : Hp}, R K F σ H ρ → ∃ F', R K F' σ H (Bl.giveL is ρ) ∧ Step σ ρ F H σ (Bl.giveL is ρ) F' H
  | [], ρ, F, r => ⟨F, r, Step.refl _ _ _ _⟩
  | i :: is, ρ, F, r => by
    unfold Bl.giveL
    split
    · rename_i d q
      obtain ⟨a, h1, _⟩ := r.own i d q
      have e : Bl.relP ρ i = some (d, ρ.set i (some (.v d))) := by unfold Bl.relP; rw [q]
      obtain ⟨F1, r1, s1, _⟩ := r.relP h1 e
      obtain ⟨F2, r2, s2⟩ := R.giveL is r1
      exact ⟨F2, r2, s1.trans s2⟩
    · exact R.giveL is r
theorem rep_flatB {v : V} {d : D} (h : flatD d = true) (r : Rep K F' v d) : Rep K F v d := by
  cases r with
  | non => exact .non
  | bl b => exact .bl b
  | int i => exact .int i
  | str x => exact .str x
  | _ => cases h
theorem reps_flatB : ∀ {vs : List V} {ds : List D}, ds.all flatD = true → Reps K F' vs ds → Reps K F vs ds
  | _, _, _, .nil => .nil
  | _, _, h, .cons r rs => by
    rw [List.all_cons, Bool.and_eq_true] at h
    exact .cons (rep_flatB h.1 r) (reps_flatB h.2 rs)
theorem borL_get : ∀ {ρ ρ1 ρ2 : En} (i : Nat), borL ρ ρ1 = some ρ2 → ρ2.length = ρ.length ∧ ∀ x, ρ[i]? = some x → ∃ y, ρ2[i]? = some y ∧ bor1 x ((ρ1[i]?).getD none) = some y
  | [], ρ1, ρ2, i, h => by cases h; exact ⟨rfl, fun x e => by simp at e⟩
  | x :: ρ, ρ1, ρ2, i, h => by
    unfold borL at h
    obtain ⟨y, h1, h⟩ := Option.bind_eq_some_iff.mp h
    obtain ⟨l, h2, h⟩ := Option.map_eq_some_iff.mp h
    cases h
    cases i with
    | zero =>
      refine ⟨by have := (borL_get 0 h2).1; simp [this], fun z e => ⟨y, rfl, ?_⟩⟩
      cases e
      cases ρ1 with
      | nil => exact h1
      | cons a b => exact h1
    | succ i =>
      have ih := borL_get i h2
      refine ⟨by simp [ih.1], fun z e => ?_⟩
      obtain ⟨w, e1, e2⟩ := ih.2 z (by simpa using e)
      refine ⟨w, by simpa using e1, ?_⟩
      cases ρ1 with
      | nil => simpa using e2
      | cons a b => simpa using e2
theorem dx_bor {te : TE} {f : Ev} (is : List Nat) (h : DX K te f) : DX K te (sBor is f) := by
  intro F σ H ρ w ρ' Q r e k
  obtain ⟨⟨w1, ρ1⟩, e1, e⟩ := Option.bind_eq_some_iff.mp e
  dsimp only at e
  split at e
  · rename_i d
    split at e
    · rename_i hf
      obtain ⟨ρ2, e2, e⟩ := Option.map_eq_some_iff.mp e
      cases e
      obtain ⟨F0, r0, s0⟩ := r.giveL is
      generalize Bl.giveL is ρ = ρ0 at *
      refine h F0 σ H ρ0 _ ρ1 Q r0 e1 fun v F' H' r1 s1 o1 => ?_
      have back : ∀ (i : Nat) (d : D), ρ'[i]? = some (some (.o d)) → ∃ d0, ρ0[i]? = some (some (.o d0)) ∧ flatL d = true ∧ (ρ1[i]? = some (some (.o d)) ∨ ρ1[i]? = some (some (.v d))) := fun i d q => by
        have g := borL_get i e2
        have hi : i < ρ0.length := by rw [← g.1]; exact (List.getElem?_eq_some_iff.mp q).1
        obtain ⟨y, y1, y2⟩ := g.2 ρ0[i] (List.getElem?_eq_getElem hi)
        rw [q] at y1
        cases y1
        cases hx : ρ0[i] with
        | none => rw [hx] at y2; simp [bor1] at y2
        | some x =>
          cases x with
          | v z => rw [hx] at y2; simp [bor1] at y2
          | o z =>
            rw [hx] at y2
            cases hz : ρ1[i]? with
            | none => rw [hz] at y2; simp [bor1] at y2
            | some u =>
              rw [hz] at y2
              cases u with
              | none => simp [bor1] at y2
              | some u =>
                simp only [Option.getD_some, bor1] at y2
                split at y2
                · rename_i hq
                  cases y2
                  refine ⟨z, by rw [List.getElem?_eq_getElem hi, hx], hq, ?_⟩
                  cases u with
                  | v t => exact .inr rfl
                  | o t => exact .inl rfl
                · cases y2
      have valb : ∀ (i : Nat) (d : D), ρ'[i]? = some (some (.v d)) → ρ0[i]? = some (some (.v d)) := fun i d q => by
        have g := borL_get i e2
        have hi : i < ρ0.length := by rw [← g.1]; exact (List.getElem?_eq_some_iff.mp q).1
        obtain ⟨y, y1, y2⟩ := g.2 ρ0[i] (List.getElem?_eq_getElem hi)
        rw [q] at y1
        cases y1
        rw [List.getElem?_eq_getElem hi]
        cases hx : ρ0[i] with
        | none => rw [hx] at y2; simp [bor1] at y2
        | some x =>
          cases x with
          | v z => rw [hx] at y2; simp [bor1] at y2; rw [y2]
          | o z =>
            rw [hx] at y2
            cases hz : (ρ1[i]?).getD none with
            | none => rw [hz] at y2; simp [bor1] at y2
            | some u =>
              rw [hz] at y2
              simp only [bor1] at y2
              split at y2
              · cases y2
              · cases y2
      have ownb : ∀ a, Owned σ ρ' a → Owned σ ρ0 a := fun a ⟨i, d, q, z⟩ => by
        obtain ⟨d0, q0, _⟩ := back i d q
        exact ⟨i, d0, q0, z⟩
      have len : ρ'.length = ρ0.length := (borL_get 0 e2).1
      refine k v F0 H' ⟨?_, fun a ha => r0.dom a (s1.dom a ha), len.trans r0.len, fun i d q => r0.val i d (valb i d q), fun i d q => ?_, fun i j d e a q q' z z' => ?_⟩ (s0.trans ⟨Le.refl _, s1.keep, s1.dom, fun _ _ _ => rfl, fun a z => .inl (ownb a z)⟩) (rep_flatB hf o1)
      · intro a u ha
        refine s1.keep a u (r0.ex a u ha) fun ⟨i, d, q, z⟩ => ?_
        obtain ⟨b, h1, h2⟩ := r0.own i d q
        have e3 : some (some (V.ref a)) = some (some (.ref b)) := z.symm.trans h1
        cases e3
        rw [h2.free] at ha
        cases ha
      · obtain ⟨d0, q0, hfl, q1⟩ := back i d q
        obtain ⟨a, h1, h2⟩ := r0.own i d0 q0
        refine ⟨a, h1, ?_⟩
        cases d with
        | lst ds =>
          refine ⟨h2.free, ?_⟩
          rcases q1 with q1 | q1
          · obtain ⟨b, g1, g2⟩ := r1.own i _ q1
            have e3 : some (some (V.ref a)) = some (some (.ref b)) := h1.symm.trans g1
            cases e3
            obtain ⟨_, vs, hv, rr⟩ := g2
            exact ⟨vs, hv, reps_flatB hfl rr⟩
          · obtain ⟨u, g1, g2⟩ := r1.val i _ q1
            have e3 : some (some (V.ref a)) = some (some u) := h1.symm.trans g1
            cases e3
            cases g2 with
            | lst hv rr => exact ⟨_, r1.ex _ _ hv, reps_flatB hfl rr⟩
        | _ => cases hfl
      · obtain ⟨d0, q0, _⟩ := back i d q
        obtain ⟨e0, q0', _⟩ := back j e q'
        exact r0.sep i j d0 e0 a q0 q0' z z'
    · cases e
  · cases e
end
end Bl
/-! insert, extend; d[k] as a target; two walks in one comprehension; a new thing that is changed and then let go. -/
namespace Bl
open PySem PySem.Spec PyProof.Rows L2 Evl
section
variable {K : PySem.W.Frag} {as ad : List Nat}
/-! ### x.insert(k, e) -/
def rIns : V → List V → Hp → VK → Prop := fun x vs H Q => ∃ (l : Addr) (xs : List V) (i : Int) (y : V), x = .ref l ∧ vs = [.int i, y] ∧ H l = some (.lst xs) ∧ xs.length < sizeLine ∧ 0 ≤ i ∧ i < 2 ^ 63 ∧
    Q .non (upd H l (.lst (xs.take i.toNat ++ [y] ++ xs.drop i.toNat)))
def sIns (i : Nat) (fk f : Ev) : Ev := fun ρ => (ownL ρ i).bind fun _ => (fk ρ).bind fun p => (rel p.2 p.1).bind fun a => (f a.2).bind fun q => (rel q.2 q.1).bind fun b => match a.1 with
  | .int k => (ownL b.2 i).bind fun ds => if 0 ≤ k ∧ k ≤ 1000000 ∧ ds.length < 1000000 then some (.val .non, b.2.set i (some (.o (.lst (ds.take k.toNat ++ [b.1] ++ ds.drop k.toNat))))) else none
  | _ => none
theorem dx_ins {tk te : TE} {fk f : Ev} (i : Nat) (hk : DX K tk fk) (h : DX K te f) : DX K (tBM K "list" rIns (tVar i) (tCons tk (tCons te tNil))) (sIns i fk f) := by
  intro F σ H ρ w ρ' Q r0 e k
  obtain ⟨d0, e0, e⟩ := Option.bind_eq_some_iff.mp e
  obtain ⟨⟨w1, ρ1⟩, e1, e⟩ := Option.bind_eq_some_iff.mp e
  obtain ⟨⟨d1, ρ2⟩, e2, e⟩ := Option.bind_eq_some_iff.mp e
  obtain ⟨⟨w3, ρ3⟩, e3, e⟩ := Option.bind_eq_some_iff.mp e
  obtain ⟨⟨d, ρ4⟩, e4, e⟩ := Option.bind_eq_some_iff.mp e
  dsimp only at e
  obtain ⟨j, rfl⟩ : ∃ j, d1 = .int j := by
    cases d1 with
    | int j => exact ⟨j, rfl⟩
    | _ => cases e
  obtain ⟨ds, e5, e⟩ := Option.bind_eq_some_iff.mp e
  split at e
  · rename_i hz
    cases e
    obtain ⟨a, ha, ow⟩ := r0.own i _ (ownL_some e0)
    obtain ⟨_, vs0, hv0, _⟩ := ow
    refine ⟨_, ha, .inl ⟨rfl, vs0, SqL.of hv0⟩, ?_⟩
    refine hk F σ H ρ w1 ρ1 _ r0 e1 fun v F1 H1 r1 s1 o1 => ?_
    obtain ⟨F2, r2, s2, rep⟩ := r1.rel s1 o1 e2
    cases rep
    refine h F2 σ H1 ρ2 w3 ρ3 _ r2 e3 fun u F3 H3 r3 s3 o3 => ?_
    obtain ⟨F4, r4, s4, rep4⟩ := r3.rel s3 o3 e4
    have q := ownL_some e5
    obtain ⟨b, hb, ow⟩ := r4.own i _ q
    have e : some (some (V.ref a)) = some (some (V.ref b)) := ha.symm.trans hb
    cases e
    obtain ⟨fa, vs, hv, hr⟩ := ow
    have z := r4.mutl q ha (((hr.take j.toNat).append (.cons rep4 .nil)).append (hr.drop j.toNat))
    exact ⟨a, vs, j, u, rfl, rfl, hv, by rw [hr.length]; exact szlt hz.2.2, hz.1, by omega, k _ F4 _ z.1 ((s2.trans s4).trans z.2) .non⟩
  · cases e
/-! ### x.extend(e) -/
def sExt (i : Nat) (f : Ev) : Ev := fun ρ => (ownL ρ i).bind fun _ => (f ρ).bind fun p => (rel p.2 p.1).bind fun q => (seqOf q.1).bind fun es => (ownL q.2 i).bind fun ds =>
  if ds.length + es.length ≤ 1000000 then some (.val .non, q.2.set i (some (.o (.lst (ds ++ es))))) else none
/-! ### d[k] as a target -/
def hSub (i : Nat) (fk : Ev) : Gs := fun d ρ => (ownD ρ i).bind fun _ => (fk ρ).bind fun p => match rd p.2 p.1 with
  | some dk => (keyD dk).bind fun key => (ownD p.2 i).bind fun ds => if ds.length < 1000000 then some (p.2.set i (some (.o (.dic (putD ds key d))))) else none
  | none => none
theorem dg_sub {tk : TE} {fk : Ev} (i : Nat) (hk : DX K tk fk) : DG K (gSub (tVar i) tk rSetD) (hSub i fk) [] := by
  intro F σ H ρ v d ρ' Q r h e k
  obtain ⟨d0, e0, e⟩ := Option.bind_eq_some_iff.mp e
  obtain ⟨⟨w1, ρ1⟩, e1, e⟩ := Option.bind_eq_some_iff.mp e
  dsimp only at e
  split at e
  · rename_i dk ek
    obtain ⟨key, e2, e⟩ := Option.bind_eq_some_iff.mp e
    obtain ⟨ds, e3, e⟩ := Option.bind_eq_some_iff.mp e
    split at e
    · rename_i hz
      cases e
      obtain ⟨a, ha, ow⟩ := r.own i _ (ownD_some e0)
      refine ⟨_, ha, ?_⟩
      refine hk F σ H ρ w1 ρ1 _ r e1 fun u F1 H1 r1 s1 o1 => ?_
      have q := ownD_some e3
      obtain ⟨b, hb, ow⟩ := r1.own i _ q
      have e : some (some (V.ref a)) = some (some (V.ref b)) := ha.symm.trans hb
      cases e
      obtain ⟨fa, vs, hv, hr⟩ := ow
      have hkey := key_rb (r1.rd o1 ek) e2
      subst hkey
      have z := r1.mutd q ha (putD_rep (k := key) (h.mono s1.le) hr)
      have l := ks_len hr
      refine ⟨a, _, rfl, DPut.k hv (szlt (by omega)), ?_⟩
      exact k σ F1 _ z.1 (s1.trans z.2) (fun _ _ => rfl) rfl
    · cases e
  · cases e
/-! ### two walks in one comprehension -/
def lcL2 (vs vs1 : List Nat) (g : Gs) (t : Tv) (s1 : Src) (g1 : Gs) (t1 : Tv) (f : Ev) : List D → List D → En → Option (List D × En)
  | [], acc, ρ => some (acc, ρ)
  | d :: ds, acc, ρ => (g d ρ).bind fun ρ1 => (t ρ1).bind fun p => if p.1 = true then (s1 p.2).bind fun q => (lcL vs1 g1 t1 f q.1 acc (mask vs1 q.2)).bind fun z => lcL2 vs vs1 g t s1 g1 t1 f ds z.1 (mask vs z.2)
    else lcL2 vs vs1 g t s1 g1 t1 f ds acc (mask vs p.2)
def sLc2 (s : Src) (ms vs vs1 : List Nat) (g : Gs) (t : Tv) (s1 : Src) (g1 : Gs) (t1 : Tv) (f : Ev) : Ev := fun ρ => (s ρ).bind fun p => (lcL2 vs vs1 g t s1 g1 t1 f p.1 [] (mask (ms ++ vs) p.2)).map fun q => (.own (.lst q.1), unmask (ms ++ vs) p.2 q.2)
/-- a walk over what is in the view -/
def ItD0 (K : PySem.W.Frag) (F : Hp) (J : It) (ds : List D) : Prop := ∀ σ' ρ' F' H', R K F' σ' H' ρ' → Le F F' →
  (∀ i d, ds[i]? = some d → J.go i H' ∧ ∀ x H'', J.yld i H' x H'' → ∃ F'', R K F'' σ' H'' ρ' ∧ Step σ' ρ' F' H' σ' ρ' F'' H'' ∧ Rep K F'' x d) ∧ J.stop ds.length H'
def DI0 (K : PySem.W.Frag) (wi : TI) (f : Src) : Prop := ∀ (F : Hp) (σ : L2.St) (H : Hp) (ρ : En) (ds : List D) (ρ' : En) (Q : It → Hp → Prop), R K F σ H ρ → f ρ = some (ds, ρ') →
  (∀ J F' H', R K F' σ H' ρ' → Step σ ρ F H σ ρ' F' H' → ItD0 K F' J ds → Q J H') → wi σ H Q
theorem di0_rel {te : TE} {f : Ev} (h : DX K te f) : DI0 K (iSeq K te) (cRel f) := by
  intro F σ H ρ ds ρ' Q r0 e k
  obtain ⟨⟨w1, ρ1⟩, e1, e⟩ := Option.bind_eq_some_iff.mp e
  obtain ⟨⟨d, ρ2⟩, e2, e⟩ := Option.bind_eq_some_iff.mp e
  obtain ⟨es, e3, e⟩ := Option.map_eq_some_iff.mp e
  cases e
  refine h F σ H ρ w1 ρ1 _ r0 e1 fun v F1 H1 r1 s1 o1 => ?_
  obtain ⟨F2, r2, s2, rep⟩ := r1.rel s1 o1 e2
  cases rep with
  | @lst a vs _ hl hr =>
    cases e3
    refine ⟨_, rfl, .inl ⟨_, SqL.of (r2.ex _ _ hl), k _ F2 H1 r2 s2 fun σ' ρ' F' H' r le => ?_⟩⟩
    have q : SqL K H' a vs := SqL.of (r.ex _ _ (le.l _ _ hl))
    refine ⟨fun i d hd => ?_, ?_⟩
    · obtain ⟨u, g1, g2⟩ := hr.get hd
      refine ⟨⟨vs, u, q, g1⟩, ?_⟩
      rintro x H'' ⟨rfl, hx⟩
      have e := hx vs q
      rw [g1] at e
      cases e
      exact ⟨F', r, Step.refl _ _ _ _, g2.mono le⟩
    · exact ⟨vs, q, by rw [hr.length]; exact Nat.le_refl _⟩
  | @tup a vs _ hl _ hr =>
    cases e3
    refine ⟨_, rfl, .inr ⟨_, r2.ex.le.sqT hl, k _ F2 H1 r2 s2 fun σ' ρ' F' H' r le => ?_⟩⟩
    have q : SqT K H' a vs := r.ex.le.sqT (le.sqT hl)
    refine ⟨fun i d hd => ?_, ?_⟩
    · obtain ⟨u, g1, g2⟩ := hr.get hd
      refine ⟨⟨vs, u, q, g1⟩, ?_⟩
      rintro x H'' ⟨rfl, hx⟩
      have e := hx vs q
      rw [g1] at e
      cases e
      exact ⟨F', r, Step.refl _ _ _ _, g2.mono le⟩
    · exact ⟨vs, q, by rw [hr.length]; exact Nat.le_refl _⟩
  | _ => cases e3
theorem dx_lc2 {wi wi1 : TI} {g g1 : TG} {tt tt1 : TT} {te : TE} {s s1 : Src} {ms vs vs1 is is1 : List Nat} {gs gs1 : Gs} {t t1 : Tv} {f : Ev} (hi : DI K wi s ms) (hg : DG K g gs is) (his : ∀ j ∈ is, j ∈ vs) (ht : DT K tt t) (hv : ∀ j ∈ vs1, j ∈ vs)
    (hi1 : DI0 K wi1 s1) (hg1 : DG K g1 gs1 is1) (his1 : ∀ j ∈ is1, j ∈ vs1) (ht1 : DT K tt1 t1) (he : DX K te f) : DX K (tLc2 wi g tt wi1 g1 tt1 te vs vs1) (sLc2 s ms vs vs1 gs t s1 gs1 t1 f) := by
  intro F σ H ρ w ρ' Q r e k
  obtain ⟨⟨ds, ρ1⟩, e1, e⟩ := Option.bind_eq_some_iff.mp e
  obtain ⟨⟨acc, ρe⟩, e2, e⟩ := Option.map_eq_some_iff.mp e
  cases e
  dsimp only at e2
  refine hi F σ H ρ ds ρ1 _ r e1 fun J F1 H1 r1 s1' it p hp => ?_
  have hm : ∀ j ∈ vs, j ∈ ms ++ vs := fun j hj => List.mem_append_right _ hj
  have rm := r1.mask hm
  have nOp : ¬ Owned (wipe σ vs) (mask (ms ++ vs) ρ1) p := fun z => by
    obtain ⟨i, d, h1, h2⟩ := z
    obtain ⟨a, h3, h4⟩ := rm.own i d h1
    have e : some (some (V.ref p)) = some (some (V.ref a)) := h2.symm.trans h3
    cases e; exact h4.there hp
  have it' : ∀ σ' ρ' F' H', R K F' σ' H' ρ' → Step (wipe σ vs) (mask (ms ++ vs) ρ1) F1 H1 σ' ρ' F' H' → Step σ (mask ms ρ1) F1 H1 σ' ρ' F' H' := fun σ' ρ' F' H' r' s' => by
    have sub : ∀ a, Owned (wipe σ vs) (mask (ms ++ vs) ρ1) a → Owned σ (mask ms ρ1) a := fun a z => by
      obtain ⟨i, d, z1, z2⟩ := z
      obtain ⟨z3, z4⟩ := mask_get z1
      refine ⟨i, d, ?_, (wipe_some z2).1⟩
      have hi : i ∉ ms := fun q => z3 (List.mem_append_left _ q)
      have : ∀ (l : List Nat), i ∉ l → (mask l ρ1)[i]? = ρ1[i]? := by
        intro l
        induction l with
        | nil => intro _; rfl
        | cons x l ih => intro hx; simp only [List.mem_cons, not_or] at hx; unfold mask; rw [List.getElem?_set_ne (Ne.symm hx.1)]; exact ih hx.2
      rw [this ms hi]; exact z4
    exact ⟨s'.le, fun a o h n => s'.keep a o h fun z => n (sub a z), s'.dom, fun a h n => s'.frz a h fun z => n (sub a z), fun a z => (s'.sub a z).imp (sub a) id⟩
  refine ⟨fun i m H' => m = ds.length - i ∧ i ≤ ds.length ∧ ∃ ρ' F' ac vac, R K F' (wipe σ vs) H' ρ' ∧ Step (wipe σ vs) (mask (ms ++ vs) ρ1) F1 H1 (wipe σ vs) ρ' F' H' ∧ lcL2 vs vs1 gs t s1 gs1 t1 f (ds.drop i) ac ρ' = some (acc, ρe) ∧
      H' p = some (.lst vac) ∧ F' p = none ∧ ¬ Owned (wipe σ vs) ρ' p ∧ Reps K F' vac ac, ⟨_, rfl, Nat.zero_le _, mask (ms ++ vs) ρ1, F1, [], [], ?_, ?_, by simpa using e2, upd_same, r1.dom p hp, nOp, .nil⟩, ?_⟩
  · exact rm.touch (r1.dom p hp) nOp
  · exact (Step.refl _ _ _ _).touch hp
  rintro i m H2 ⟨rfl, hi2, ρ2, F2, ac, vac, r2, s2, e3, hD, fD, nD, reps⟩
  have it2 := it (wipe σ vs) ρ2 F2 H2 r2 (it' _ _ _ _ r2 s2)
  by_cases hlt : i < ds.length
  · have hd : ds[i]? = some ds[i] := by simp [hlt]
    rw [List.drop_eq_getElem_cons hlt] at e3
    obtain ⟨ρ3, e4, e3⟩ := Option.bind_eq_some_iff.mp e3
    obtain ⟨⟨b, ρ4⟩, e5, e3⟩ := Option.bind_eq_some_iff.mp e3
    obtain ⟨go, yl⟩ := it2.1 i _ hd
    refine .inr ⟨go, fun H' => ∃ ρ' F' ac vac, R K F' (wipe σ vs) H' ρ' ∧ Step (wipe σ vs) (mask (ms ++ vs) ρ1) F1 H1 (wipe σ vs) ρ' F' H' ∧ lcL2 vs vs1 gs t s1 gs1 t1 f (ds.drop (i + 1)) ac ρ' = some (acc, ρe) ∧
      H' p = some (.lst vac) ∧ F' p = none ∧ ¬ Owned (wipe σ vs) ρ' p ∧ Reps K F' vac ac, fun H' h => ⟨_, by omega, rfl, hlt, h⟩, fun x H'' hy => ?_⟩
    obtain ⟨F3, r3, s3, rep⟩ := yl x H'' hy
    refine hg F3 (wipe σ vs) H'' ρ2 x _ ρ3 _ r3 rep e4 fun σ4 F4 H4 r4 s4 o4 l4 => ?_
    have hw : wipe σ4 vs = wipe σ vs := by
      have h1 : wipe σ4 vs = wipe (wipe σ vs) vs := wipe_eq l4 fun j hj => o4 j fun z => hj (his j z)
      rw [h1]
      exact wipe_eq (wipe_length _ _) fun j hj => wipe_get hj
    refine ⟨hw, ?_⟩
    have s34 := s3.trans s4
    refine ht F4 σ4 H4 ρ3 b ρ4 _ r4 e5 fun F5 H5 r5 s5 => ?_
    have s35 := s34.trans s5
    have s15 := s2.trans s35
    have keepP : ∀ {σx : L2.St} {ρx : En} {Fx Hx : Hp}, Step (wipe σ vs) ρ2 F2 H2 σx ρx Fx Hx → Hx p = some (.lst vac) ∧ Fx p = none ∧ ¬ Owned σx ρx p := fun sx =>
      ⟨sx.keep p _ hD nD, (sx.frz p (by rw [hD]; simp) nD).trans fD, fun z => (sx.sub p z).elim nD (by rw [hD]; simp)⟩
    cases b with
    | false =>
      rw [if_neg (show ¬ (false, ρ4).fst = true from Bool.false_ne_true)] at e3
      show ∃ ρ', _
      obtain ⟨q1, q2, q3⟩ := keepP (s35.again hw)
      exact ⟨mask vs ρ4, F5, ac, vac, r5.again hw, s15.again hw, e3, q1, q2, q3, reps.mono s35.le⟩
    | true =>
      rw [if_pos rfl] at e3 ⊢
      obtain ⟨⟨ds1, ρ5⟩, e6, e3⟩ := Option.bind_eq_some_iff.mp e3
      obtain ⟨⟨acz, ρz⟩, e7, e3⟩ := Option.bind_eq_some_iff.mp e3
      dsimp only at e3 e7
      refine hi1 F5 σ4 H5 ρ4 ds1 ρ5 _ r5 e6 fun J1 F6 H6 r6 s6 itI => ?_
      have s36 := s35.trans s6
      have s26 := s15.trans s6
      have rI := r6.again (σ := σ4) (vs := vs1) rfl
      have sI0 : Step σ4 ρ5 F6 H6 (wipe σ4 vs1) (mask vs1 ρ5) F6 H6 := (Step.refl _ _ _ _).again rfl
      have wz : wipe (wipe σ4 vs1) vs = wipe σ vs := by
        rw [← hw]
        exact wipe_eq (wipe_length _ _) fun j hj => wipe_get fun q => hj (hv j q)
      obtain ⟨p1, p2, p3⟩ := keepP ((s36.trans sI0))
      refine ⟨fun j m H' => m = ds1.length - j ∧ j ≤ ds1.length ∧ ∃ ρ' F' ac' vac', R K F' (wipe σ4 vs1) H' ρ' ∧ Le F6 F' ∧ Step (wipe σ vs) (mask (ms ++ vs) ρ1) F1 H1 (wipe σ4 vs1) ρ' F' H' ∧ lcL vs1 gs1 t1 f (ds1.drop j) ac' ρ' = some (acz, ρz) ∧
          H' p = some (.lst vac') ∧ F' p = none ∧ ¬ Owned (wipe σ4 vs1) ρ' p ∧ Reps K F' vac' ac', ⟨_, rfl, Nat.zero_le _, mask vs1 ρ5, F6, ac, vac, rI, Le.refl _, s26.trans sI0, by simpa using e7, p1, p2, p3, reps.mono s36.le⟩, ?_⟩
      rintro j m1 H7 ⟨rfl, hj, ρ7, F7, ac7, vac7, r7, s7, s17, e8, hD7, fD7, nD7, reps7⟩
      have itJ := itI (wipe σ4 vs1) ρ7 F7 H7 r7 s7
      by_cases hlt1 : j < ds1.length
      · have hd1 : ds1[j]? = some ds1[j] := by simp [hlt1]
        rw [List.drop_eq_getElem_cons hlt1] at e8
        obtain ⟨ρ8, e9, e8⟩ := Option.bind_eq_some_iff.mp e8
        obtain ⟨⟨b1, ρ9⟩, e10, e8⟩ := Option.bind_eq_some_iff.mp e8
        obtain ⟨go1, yl1⟩ := itJ.1 j _ hd1
        refine .inr ⟨go1, fun H' => ∃ ρ' F' ac' vac', R K F' (wipe σ4 vs1) H' ρ' ∧ Le F6 F' ∧ Step (wipe σ vs) (mask (ms ++ vs) ρ1) F1 H1 (wipe σ4 vs1) ρ' F' H' ∧ lcL vs1 gs1 t1 f (ds1.drop (j + 1)) ac' ρ' = some (acz, ρz) ∧
          H' p = some (.lst vac') ∧ F' p = none ∧ ¬ Owned (wipe σ4 vs1) ρ' p ∧ Reps K F' vac' ac', fun H' h => ⟨_, by omega, rfl, hlt1, h⟩, fun x1 Hy hy1 => ?_⟩
        obtain ⟨F8, r8, s8, rep8⟩ := yl1 x1 Hy hy1
        refine hg1 F8 (wipe σ4 vs1) Hy ρ7 x1 _ ρ8 _ r8 rep8 e9 fun σ9 F9 H9 r9 s9 o9 l9 => ?_
        have hw1 : wipe σ9 vs1 = wipe σ4 vs1 := by
          have h1 : wipe σ9 vs1 = wipe (wipe σ4 vs1) vs1 := wipe_eq l9 fun j hj => o9 j fun z => hj (his1 j z)
          rw [h1]
          exact wipe_eq (wipe_length _ _) fun j hj => wipe_get hj
        refine ⟨hw1, ?_⟩
        have s79 := s8.trans s9
        refine ht1 F9 σ9 H9 ρ8 b1 ρ9 _ r9 e10 fun Fa Ha ra sa => ?_
        have s7a := s79.trans sa
        have keepQ : ∀ {σx : L2.St} {ρx : En} {Fx Hx : Hp}, Step (wipe σ4 vs1) ρ7 F7 H7 σx ρx Fx Hx → Hx p = some (.lst vac7) ∧ Fx p = none ∧ ¬ Owned σx ρx p := fun sx =>
          ⟨sx.keep p _ hD7 nD7, (sx.frz p (by rw [hD7]; simp) nD7).trans fD7, fun z => (sx.sub p z).elim nD7 (by rw [hD7]; simp)⟩
        cases b1 with
        | false =>
          rw [if_neg (show ¬ (false, ρ9).fst = true from Bool.false_ne_true)] at e8
          show ∃ ρ', _
          obtain ⟨q1, q2, q3⟩ := keepQ (s7a.again hw1)
          exact ⟨mask vs1 ρ9, Fa, ac7, vac7, ra.again hw1, s7.trans s7a.le, (s17.trans s7a).again hw1, e8, q1, q2, q3, reps7.mono s7a.le⟩
        | true =>
          rw [if_pos rfl] at e8 ⊢
          obtain ⟨⟨wb, ρb⟩, e11, e8⟩ := Option.bind_eq_some_iff.mp e8
          obtain ⟨⟨dc, ρc⟩, e12, e8⟩ := Option.bind_eq_some_iff.mp e8
          dsimp only at e8
          split at e8
          · rename_i hz
            refine he Fa σ9 Ha ρ9 wb ρb _ ra e11 fun y Fb Hb rb sb ob => ?_
            obtain ⟨Fc, rc, sc, repc⟩ := rb.rel sb ob e12
            have s7c := s7a.trans sc
            obtain ⟨q1, q2, q3⟩ := keepQ (s7c.again hw1)
            refine ⟨vac7, q1, by have := reps7.length; exact szlt (by omega), mask vs1 ρc, Fc, ac7 ++ [dc], vac7 ++ [y], (rc.again hw1).touch q2 q3, s7.trans s7c.le, ((s17.trans s7c).again hw1).touch hp, e8, upd_same, q2, q3, (reps7.mono s7c.le).append (.cons repc .nil)⟩
          · cases e8
      · have ej : j = ds1.length := by omega
        subst ej
        rw [List.drop_length] at e8
        cases e8
        refine .inl ⟨itJ.2, ?_⟩
        have sx := s17.again (σ := σ) (vs := vs) wz
        have nx : ¬ Owned (wipe σ vs) (mask vs ρz) p := fun z => by
          rw [← wz] at z
          obtain ⟨i, d, _, z1, z2⟩ := owned_mask (vs := vs) (ρ := ρz) (fun _ q => q) (fun j hj => wipe_get hj) z
          exact nD7 ⟨i, d, z1, z2⟩
        exact ⟨mask vs ρz, F7, acz, vac7, r7.again wz, sx, e3, hD7, fD7, nx, reps7⟩
  · have ei : i = ds.length := by omega
    subst ei
    rw [List.drop_length] at e3
    cases e3
    refine .inl ⟨it2.2, ?_⟩
    obtain ⟨r8, s8⟩ := r1.unmask hm s2 r2
    refine k _ F2 H2 r8 (s1'.trans s8) ⟨p, rfl, s1'.dom p hp, ⟨fD, vac, hD, reps⟩, fun z => ?_⟩
    rcases s8.sub p z with q | q
    · obtain ⟨i, d, z1, z2⟩ := q
      obtain ⟨a, z3, z4⟩ := r1.own i d z1
      have e : some (some (V.ref p)) = some (some (V.ref a)) := z2.symm.trans z3
      cases e; exact z4.there hp
    · obtain ⟨i, d, z1, z2⟩ := z
      rcases unmask_get z1 with ⟨h3, h4⟩ | ⟨h3, h4⟩
      · obtain ⟨a, z3, z4⟩ := r1.own i d h4
        have e : some (some (V.ref p)) = some (some (V.ref a)) := z2.symm.trans z3
        cases e; exact z4.there hp
      · exact nD ⟨i, d, h4, by rw [wipe_get fun q => h3 (hm i q)]; exact z2⟩
/-! ### a new thing in a new list, changed and then let go -/
def DAF (K : PySem.W.Frag) (k : Nat) (ta : TA) (f : Evs) : Prop := ∀ (F : Hp) (σ : L2.St) (H : Hp) (ρ : En) (ds : List D) (ρ' : En) (Q : List V → Hp → Prop), R K F σ H ρ → f ρ = some (ds, ρ') →
  (∀ vs F' H', R K F' σ H' ρ' → Step σ ρ F H σ ρ' F' H' → Reps K F' vs ds → (∃ b, vs[k]? = some (.ref b) ∧ H b = none) → Q vs H') → ta σ H Q
def sConsO (f : Ev) (fs : Evs) : Evs := fun ρ => (f ρ).bind fun p => match p.1 with
  | .own d => (fs p.2).map fun z => (d :: z.1, z.2)
  | _ => none
theorem daf_here {te : TE} {ta : TA} {f : Ev} {fs : Evs} (h : DX K te f) (hs : DA K ta fs) : DAF K 0 (tCons te ta) (sConsO f fs) := by
  intro F σ H ρ ds ρ' Q r e k
  obtain ⟨⟨w1, ρ1⟩, e1, e⟩ := Option.bind_eq_some_iff.mp e
  cases w1 with
  | own d =>
    obtain ⟨⟨es, ρ2⟩, e2, e⟩ := Option.map_eq_some_iff.mp e
    cases e
    refine h F σ H ρ _ ρ1 _ r e1 fun v F1 H1 r1 s1 o1 => ?_
    obtain ⟨a, rfl, h0, _⟩ := id o1
    obtain ⟨F2, r2, s2, rep⟩ := r1.rel s1 o1 (rfl : Bl.rel ρ1 (.own d) = some (d, ρ1))
    refine hs F2 σ H1 ρ1 es _ _ r2 e2 fun vs F3 H3 r3 s3 reps => ?_
    exact k _ F3 H3 r3 (s2.trans s3) (.cons (rep.mono s3.le) reps) ⟨a, rfl, h0⟩
  | _ => cases e
theorem daf_next {k : Nat} {te : TE} {ta : TA} {f : Ev} {fs : Evs} (h : DX K te f) (hs : DAF K k ta fs) : DAF K (k + 1) (tCons te ta) (sCons f fs) := by
  intro F σ H ρ ds ρ' Q r e kk
  obtain ⟨⟨w1, ρ1⟩, e1, e⟩ := Option.bind_eq_some_iff.mp e
  obtain ⟨⟨d, ρ2⟩, e2, e⟩ := Option.bind_eq_some_iff.mp e
  obtain ⟨⟨es, ρ3⟩, e3, e⟩ := Option.map_eq_some_iff.mp e
  cases e
  refine h F σ H ρ w1 ρ1 _ r e1 fun v F1 H1 r1 s1 o1 => ?_
  obtain ⟨F2, r2, s2, rep⟩ := r1.rel s1 o1 e2
  refine hs F2 σ H1 ρ2 es _ _ r2 e3 fun vs F3 H3 r3 s3 reps ⟨b, hb, h0⟩ => ?_
  exact kk _ F3 H3 r3 (s2.trans s3) (.cons (rep.mono s3.le) reps) ⟨b, by simpa using hb, s2.dom b h0⟩
structure Mk0 (K : PySem.W.Frag) (ad : List Nat) (i k : Nat) (F0 : Hp) (σ0 : L2.St) (H0 : Hp) (ρ0 : En) (F : Hp) (σ : L2.St) (H : Hp) (ρ : En) : Prop where
  r : R K F σ H ρ
  s : Step σ0 ρ0 F0 H0 σ ρ F H
  kp : Kp ad σ0 σ
  fr : ∃ t vs b ws, σ[i]? = some (some (.ref t)) ∧ F t = some (.lst vs) ∧ vs[k]? = some (.ref b) ∧ H0 b = none ∧ F b = some (.lst ws) ∧ ws.length < 1000000
/-- behind a mark at ρ0 -/
def DM (K : PySem.W.Frag) (as ad : List Nat) (i k : Nat) (ts : TS) (f : En → Sv) : Prop := ∀ (F0 : Hp) (σ0 : L2.St) (H0 : Hp) (ρ0 : En) (F : Hp) (σ : L2.St) (H : Hp) (ρ : En) (out : Out) (D : Ends), R K F0 σ0 H0 ρ0 → Mk0 K ad i k F0 σ0 H0 ρ0 F σ H ρ → f ρ0 ρ = some out →
  Fin K as σ0 ρ0 F0 H0 D out → ts D σ H
def mSeq (f : Sv) (g : En → Sv) : En → Sv := fun ρ0 ρ => (f ρ).bind fun o => match o with
  | .nx ρ' => g ρ0 ρ'
  | o => some o
theorem Kp.wide {as bs : List Nat} {σ σ' : L2.St} (h : ∀ j ∈ as, j ∈ bs) (k : Kp as σ σ') : Kp bs σ σ' := fun j hj => k j fun z => hj (h j z)
theorem Fin.wide {as bs : List Nat} {σ : L2.St} {ρ : En} {F H : Hp} {D : Ends} {out : Out} (h : ∀ j ∈ as, j ∈ bs) (k : Fin K bs σ ρ F H D out) : Fin K as σ ρ F H D out := by
  cases out with
  | nx ρ' => exact fun σ' F' H' r s' k' => k σ' F' H' r s' (k'.wide h)
  | bk ρ' => exact fun σ' F' H' r s' k' => k σ' F' H' r s' (k'.wide h)
  | ct ρ' => exact fun σ' F' H' r s' k' => k σ' F' H' r s' (k'.wide h)
  | rt w ρ' => exact fun v σ' F' H' r s' k' o => k v σ' F' H' r s' (k'.wide h) o
theorem dm_seq {am : List Nat} {i k : Nat} {t u : TS} {f : Sv} {g : En → Sv} (ha : ∀ j ∈ am, j ∈ ad) (hd : ∀ j ∈ ad, j ∈ as) (hi : i ∉ am) (h : DS K am t f) (h2 : DM K as ad i k u g) : DM K as ad i k (tSeq t u) (mSeq f g) := by
  intro F0 σ0 H0 ρ0 F σ H ρ out D r0 m e kk
  obtain ⟨o, e1, e⟩ := Option.bind_eq_some_iff.mp e
  have back : Fin K am σ ρ F H D out := (kk.back m.s (m.kp.wide hd)).wide fun j hj => hd j (ha j hj)
  refine h F σ H ρ o _ m.r e1 ?_
  cases o with
  | nx ρ1 =>
    intro σ1 F1 H1 r1 s1 k1
    refine h2 F0 σ0 H0 ρ0 F1 σ1 H1 ρ1 out D r0 ⟨r1, m.s.trans s1, m.kp.trans (k1.wide ha), ?_⟩ e kk
    obtain ⟨t, vs, b, ws, g1, g2, g3, g4, g5, g6⟩ := m.fr
    exact ⟨t, vs, b, ws, (k1 i hi).trans g1, s1.le.l _ _ g2, g3, g4, s1.le.l _ _ g5, g6⟩
  | bk ρ1 => cases e; exact back
  | ct ρ1 => cases e; exact back
  | rt w ρ1 => cases e; exact back
/-- a slot at the mark and now -/
def bor2 : Option Ent → Option Ent → Option Ent
  | some (.o _), some e => if flatL e.d = true then some (.o e.d) else none
  | some (.o _), none => none
  | x, _ => x
def backL (ad : List Nat) : Nat → En → En → En
  | _, [], _ => []
  | n, x :: ρ0, ρ => (if n ∈ ad then none else bor2 x (ρ.headD none)) :: backL ad (n + 1) ρ0 ρ.tail
theorem backL_len : ∀ (ρ0 ρ : En) (n : Nat), (backL ad n ρ0 ρ).length = ρ0.length
  | [], _, _ => rfl
  | x :: ρ0, ρ, n => by simp [backL, backL_len ρ0]
theorem backL_get : ∀ (ρ0 ρ : En) (n j : Nat) (x : Option Ent), ρ0[j]? = some x → (backL ad n ρ0 ρ)[j]? = some (if n + j ∈ ad then none else bor2 x ((ρ[j]?).getD none))
  | [], _, _, _, _, h => by simp at h
  | y :: ρ0, ρ, n, 0, x, h => by
    cases h
    cases ρ with
    | nil => rfl
    | cons a b => rfl
  | y :: ρ0, ρ, n, j + 1, x, h => by
    have := backL_get ρ0 ρ.tail (n + 1) j x (by simpa using h)
    rw [show n + 1 + j = n + (j + 1) by omega] at this
    cases ρ with
    | nil => simpa [backL] using this
    | cons a b => simpa [backL] using this
def mApp (ad : List Nat) (g : Sv) : En → Sv := fun ρ0 ρ => if ρ.length = ρ0.length then g (backL ad 0 ρ0 ρ) else none
theorem dm_app {i k : Nat} {u : TS} {g : Sv} {c : V} (hd : ∀ j ∈ ad, j ∈ as) (h : DS K as u g) : DM K as ad i k (tSeq (tDrop (tBM K "list" rAppend (tOp (rIx K) (tVar i) (tC (.int (k : Nat)))) (tCons (tC c) tNil))) u) (mApp ad g) := by
  intro F0 σ0 H0 ρ0 F σ H ρ out E0 r0 m e kk
  unfold mApp at e
  split at e
  rotate_left
  · cases e
  rename_i hlen
  obtain ⟨t, vs, b, ws, g1, g2, g3, g4, g5, g6⟩ := m.fr
  have ht := m.r.ex _ _ g2
  have hb := m.r.ex _ _ g5
  have at_ : atI vs (k : Int) = some (.ref b) := by
    have hk : k < vs.length := (List.getElem?_eq_some_iff.mp g3).1
    have hk' : (k : Int) < (vs.length : Int) := by omega
    simp [atI, ixN, hk', g3]
  refine ⟨_, g1, .inl ⟨t, vs, _, .ref b, rfl, rfl, SqL.of ht, at_, .inl ⟨rfl, ws, SqL.of hb⟩, b, ws, c, rfl, rfl, hb, szlt g6, ?_⟩⟩
  -- the things of the mark
  have nb : ∀ a, H0 a ≠ none → a ≠ b := fun a h z => h (by rw [z]; exact g4)
  have vb : ∀ (j : Nat) (d : D), (backL ad 0 ρ0 ρ)[j]? = some (some (.v d)) → ρ0[j]? = some (some (.v d)) ∧ j ∉ ad := fun j d q => by
    have hj : j < ρ0.length := by rw [← backL_len (ad := ad) ρ0 ρ 0]; exact (List.getElem?_eq_some_iff.mp q).1
    have := backL_get (ad := ad) ρ0 ρ 0 j ρ0[j] (List.getElem?_eq_getElem hj)
    rw [q, Nat.zero_add] at this
    have this := Option.some.inj this
    split at this
    · cases this
    · rename_i hn
      refine ⟨?_, hn⟩
      rw [List.getElem?_eq_getElem hj]
      cases hx : ρ0[j] with
      | none => rw [hx] at this; simp [bor2] at this
      | some x =>
        cases x with
        | v z => rw [hx] at this; simp [bor2] at this; rw [this]
        | o z =>
          rw [hx] at this
          cases hz : (ρ[j]?).getD none with
          | none => rw [hz] at this; simp [bor2] at this
          | some u =>
            rw [hz] at this
            simp only [bor2] at this
            split at this <;> cases this
  have ob : ∀ (j : Nat) (d : D), (backL ad 0 ρ0 ρ)[j]? = some (some (.o d)) → j ∉ ad ∧ ∃ d0, ρ0[j]? = some (some (.o d0)) ∧ flatL d = true ∧ (ρ[j]? = some (some (.o d)) ∨ ρ[j]? = some (some (.v d))) := fun j d q => by
    have hj : j < ρ0.length := by rw [← backL_len (ad := ad) ρ0 ρ 0]; exact (List.getElem?_eq_some_iff.mp q).1
    have := backL_get (ad := ad) ρ0 ρ 0 j ρ0[j] (List.getElem?_eq_getElem hj)
    rw [q, Nat.zero_add] at this
    have this := Option.some.inj this
    split at this
    · cases this
    · rename_i hn
      refine ⟨hn, ?_⟩
      rw [List.getElem?_eq_getElem hj]
      cases hx : ρ0[j] with
      | none => rw [hx] at this; simp [bor2] at this
      | some x =>
        cases x with
        | v z => rw [hx] at this; simp [bor2] at this
        | o z =>
          rw [hx] at this
          cases hz : ρ[j]? with
          | none => rw [hz] at this; simp [bor2] at this
          | some u =>
            rw [hz] at this
            cases u with
            | none => simp [bor2] at this
            | some u =>
              simp only [Option.getD_some, bor2] at this
              split at this
              · rename_i hq
                cases this
                refine ⟨z, rfl, hq, ?_⟩
                cases u with
                | v t => exact .inr rfl
                | o t => exact .inl rfl
              · cases this
  have ownb : ∀ a, Owned σ (backL ad 0 ρ0 ρ) a → Owned σ0 ρ0 a := fun a ⟨j, d, q, z⟩ => by
    obtain ⟨hn, d0, q0, _⟩ := ob j d q
    exact ⟨j, d0, q0, (m.kp j hn).symm.trans z⟩
  have len : (backL ad 0 ρ0 ρ).length = σ.length := by
    rw [backL_len, ← hlen]
    exact m.r.len
  have rr : R K F0 σ (upd H b (.lst (ws ++ [c]))) (backL ad 0 ρ0 ρ) := by
    refine ⟨fun a u ha => ?_, fun a ha => ?_, len, fun j d q => ?_, fun j d q => ?_, fun j l d e a q q' z z' => ?_⟩
    · have h0 := r0.ex a u ha
      have na : a ≠ b := nb a (by rw [h0]; simp)
      rw [upd_ne na]
      refine m.s.keep a u h0 fun ⟨j, d, q, z⟩ => ?_
      obtain ⟨x, h1, h2⟩ := r0.own j d q
      have e3 : some (some (V.ref a)) = some (some (.ref x)) := z.symm.trans h1
      cases e3
      rw [h2.free] at ha
      cases ha
    · by_cases na : a = b
      · subst na; rw [upd_same] at ha; cases ha
      · rw [upd_ne na] at ha
        exact r0.dom a (m.s.dom a ha)
    · obtain ⟨q0, hn⟩ := vb j d q
      obtain ⟨v, h1, h2⟩ := r0.val j d q0
      exact ⟨v, (m.kp j hn).trans h1, h2⟩
    · obtain ⟨hn, d0, q0, hfl, q1⟩ := ob j d q
      obtain ⟨x, h1, h2⟩ := r0.own j d0 q0
      have hx : σ[j]? = some (some (.ref x)) := (m.kp j hn).trans h1
      have nx : x ≠ b := nb x h2.there
      refine ⟨x, hx, ?_⟩
      cases d with
      | lst ds =>
        refine ⟨h2.free, ?_⟩
        rw [upd_ne nx]
        rcases q1 with q1 | q1
        · obtain ⟨y, y1, y2⟩ := m.r.own j _ q1
          have e3 : some (some (V.ref x)) = some (some (.ref y)) := hx.symm.trans y1
          cases e3
          obtain ⟨_, us, hv, ru⟩ := y2
          exact ⟨us, hv, reps_flatB hfl ru⟩
        · obtain ⟨y, y1, y2⟩ := m.r.val j _ q1
          have e3 : some (some (V.ref x)) = some (some y) := hx.symm.trans y1
          cases e3
          cases y2 with
          | lst hv ru => exact ⟨_, m.r.ex _ _ hv, reps_flatB hfl ru⟩
      | _ => cases hfl
    · obtain ⟨hn, d0, q0, _⟩ := ob j d q
      obtain ⟨hn', e0, q0', _⟩ := ob l e q'
      exact r0.sep j l d0 e0 a q0 q0' ((m.kp j hn).symm.trans z) ((m.kp l hn').symm.trans z')
  have ss : Step σ0 ρ0 F0 H0 σ (backL ad 0 ρ0 ρ) F0 (upd H b (.lst (ws ++ [c]))) :=
    ⟨Le.refl _, fun a o h n => by rw [upd_ne (nb a (by rw [h]; simp))]; exact m.s.keep a o h n, fun a ha => by
      by_cases na : a = b
      · subst na; rw [upd_same] at ha; cases ha
      · rw [upd_ne na] at ha; exact m.s.dom a ha, fun _ _ _ => rfl, fun a z => .inl (ownb a z)⟩
  exact h F0 σ _ _ out E0 rr e (kk.back ss (m.kp.wide hd))
def isLst : Option D → Bool
  | some (.lst ds) => decide (ds.length < 1000000)
  | _ => false
def sMark (i k : Nat) (is : List Nat) (fs : Evs) (rest : En → Sv) : Sv := fun ρ => (fs (giveL is ρ)).bind fun p => if p.1.length ≤ 1000000 ∧ isLst p.1[k]? = true ∧ i < p.2.length then rest (giveL is ρ) (p.2.set i (some (.v (.lst p.1)))) else none
theorem ds_mark {i k : Nat} (is : List Nat) {ta : TA} {u : TS} {fs : Evs} {g : En → Sv} (hi : i ∈ ad) (hd : ∀ j ∈ ad, j ∈ as) (h : DAF K k ta fs) (h2 : DM K as ad i k u g) : DS K as (tSeq (tAsg (tLst ta) (gName i)) u) (sMark i k is fs g) := by
  intro F00 σ H ρ00 out D r00 e kk00
  obtain ⟨F, r, s00⟩ := r00.giveL is
  have kk := kk00.back s00 (Kp.refl _ _)
  unfold sMark at e
  generalize Bl.giveL is ρ00 = ρ at *
  obtain ⟨⟨ds, ρ1⟩, e1, e⟩ := Option.bind_eq_some_iff.mp e
  dsimp only at e
  split at e
  · rename_i hz
    refine h F σ H ρ ds ρ1 _ r e1 fun vs F1 H1 r1 s1 reps ⟨b, hb, h0⟩ => ⟨by rw [reps.length]; exact szl hz.1, fun p hp => ?_⟩
    have z := r1.new (o := .lst vs) hp
    have rep : Rep K (upd F1 p (.lst vs)) (.ref p) (.lst ds) := .lst upd_same (reps.mono (Ex.new (r1.dom p hp)).le)
    have z2 := z.1.setV i rep
    have hl := hz.2.1
    obtain ⟨es, he⟩ : ∃ es, ds[k]? = some (.lst es) ∧ es.length < 1000000 := by
      cases q : ds[k]? with
      | none => rw [q] at hl; cases hl
      | some x =>
        rw [q] at hl
        cases x with
        | lst es => exact ⟨es, rfl, of_decide_eq_true hl⟩
        | _ => cases hl
    obtain ⟨v, q1, q2⟩ := reps.get he.1
    rw [hb] at q1
    cases q1
    cases q2 with
    | @lst _ ws _ hw hr =>
    refine h2 F σ H ρ _ _ _ _ out D r ⟨z2.1, (s1.trans z.2).trans z2.2, Kp.set hi, p, vs, b, ws, ?_, upd_same, hb, h0, ?_, by rw [hr.length]; exact he.2⟩ e kk
    · exact set_get (by rw [← r1.len]; exact hz.2.2)
    · have : b ≠ p := fun q => by
        have := r1.ex _ _ hw
        rw [q, hp] at this; cases this
      rw [upd_ne this]; exact hw
  · cases e
end
end Bl
/-! sorted of a tuple of texts. -/
namespace Bl
open PySem PySem.Spec PyProof.Rows L2 Evl
section
variable {X : Cx}
def rSortTT (K : PySem.W.Frag) : List V → Hp → VK → Prop := fun xs H Q => ∃ (a : Addr) (ss : List Str), xs = [V.ref a] ∧ SqT K H a (ss.map V.str) ∧ ss.length ≤ 100000 ∧
  ∀ p : Addr, H p = none → Q (.ref p) (upd H p (.lst ((sortS ss).map V.str)))
set_option maxHeartbeats 8000000 in
theorem cr_sortTT (hu : X.A.units + 64 < cLine) : CallR X (.builtin "sorted") (rSortTT X.K) := by
  intro pins s σ H xs us Q I r h
  obtain ⟨a, ss, rfl, ha, few, q⟩ := h
  obtain ⟨u, rfl, ru⟩ := vals1 r
  obtain rfl : u = Value.ref a := ru
  obtain ⟨its, rv, ⟨o, ho, hc, n, hd⟩, hz⟩ := I.tuple ha
  have st : StrsAre its ss := by simpa using rv.strs
  have lv : its.length = ss.length := st.length
  refine Calls.call_function_entry kind_sorted plain_sorted entry_sorted (args_sorted1 _) (show wpAny _ _ (Builtin.«sorted» _) _ _ _ from ?_)
  unfold Builtin.«sorted»
  refine wpAny_bind (m := checkCount "sorted" 1 1 _) (wpAny_pure (wpAny_bind (wpAny_collect_seq (A := X.A.in1) a (.inr rfl) ho hc hd (fun h' hk => ?_) (by rw [List.size_toArray, lv]; exact szl (by omega)))))
  have et : its.toArray.toList = its := by simp
  rw [et]
  have I1 : Inv X pins σ H { s with heap := h' } := I.kept (t' := s.toks) hk
  refine wpAny_bind (wpAny_newList ?_ (by rw [lv]; exact szl (by omega)))
  have hL : (h'.push (seqObj "list" its.toArray 0)).get? h'.objs.size = some (seqObj "list" its.toArray 0) := Heap.get?_push_size _ rfl
  obtain ⟨e1, e2⟩ := each_str (h := h'.push (seqObj "list" its.toArray 0)) (c := h'.objs.size) st
  refine wpAny_bind (wpAny_holding (PySem.W.list_sort_data (s := { s with heap := h'.push (seqObj "list" its.toArray 0) }) (enc := PyData.str) hL e1 e2 (PySem.W.AllAlike.of fun _ _ => rfl) (PySem.W.Sortable.others fun _ => ⟨fun z => (by cases z), fun _ z => (by cases z)⟩)
    (by rw [← lv]; exact szl (by omega)) (fun x _ => by show X.A.in1.units + 1 + 0 < cLine; have : X.A.in1.units = X.A.units + 1 := rfl; omega) fun out lo eo => ?_))
  obtain ⟨c, hout⟩ := sortedHeap_at (vs := its) (out := out.toArray) hL
  have same : ss.mergeSort (PySem.W.dataLe false PyData.str) = sortS ss := by
    rw [leS_data]; rfl
  rw [same] at eo
  have keep : ∀ b o, h'.get? b = some o → (sortedHeap (h'.push (seqObj "list" its.toArray 0)) h'.objs.size its out.toArray).get? b = some o := fun b o z => by
    have lt := Heap.lt_size z
    rw [sortedHeap_old (Nat.ne_of_lt lt) (Nat.lt_of_lt_of_le lt (by rw [Heap.size_push]; exact Nat.le_succ _))]
    exact Heap.get?_push_of_some _ z
  have new : H h'.objs.size = none := I1.hok.fresh (Nat.le_refl _)
  have lw : ((sortS ss).map V.str).length ≤ sizeLine := by rw [List.length_map]; unfold sortS; rw [List.length_mergeSort]; exact szl (by omega)
  refine wpAny_pure ⟨_, rfl, .ref h'.objs.size, upd H h'.objs.size (.lst ((sortS ss).map V.str)), ?_, rfl, q _ new⟩
  exact I1.laid (t' := _) keep (Nat.le_refl _) ⟨lw, out, c, vals_str eo, hout⟩
def rSortU (K : PySem.W.Frag) : List V → Hp → VK → Prop := fun xs H Q => rSortD K xs H Q ∨ rSortTT K xs H Q
theorem cr_sortU (hu : X.A.units + 64 < cLine) : CallR X (.builtin "sorted") (rSortU X.K) := by
  intro pins s σ H xs us Q I r h
  rcases h with h | h
  · exact cr_sortD hu pins s σ H xs us Q I r h
  · exact cr_sortTT hu pins s σ H xs us Q I r h
def sortTT : D → Option Opd
  | .tup ds => (strsD ds).bind fun xs => if xs.length ≤ 100000 then some (.own (.lst ((sortS xs).map D.str))) else none
  | _ => none
def sortU (d : D) : Option Opd := (sortO d).or (sortTT d)
theorem strs_rep {K : PySem.W.Frag} {F : Hp} : ∀ {vs : List V} {ds : List D} {xs : List Str}, Reps K F vs ds → strsD ds = some xs → vs = xs.map V.str
  | _, _, _, .nil, e => by cases e; rfl
  | _, _, xs, .cons (d := d) h t, e => by
    cases h with
    | str x =>
      obtain ⟨l, e1, e2⟩ := Option.map_eq_some_iff.mp (show (strsD _).map (fun l => x :: l) = some xs from e)
      rw [← e2, strs_rep t e1]; rfl
    | _ => cases e
theorem ud_sortU {K : PySem.W.Frag} : UnD K (fun x => rSortU K [x]) sortU := by
  intro F σ H ρ x dx w Q r0 hx e k
  unfold sortU at e
  cases q : sortO dx with
  | some w' =>
    rw [q] at e
    cases e
    exact .inl (ud_sort F σ H ρ x dx w Q r0 hx q k)
  | none =>
    rw [q, Option.none_or] at e
    unfold sortTT at e
    split at e
    · rename_i ds
      obtain ⟨xs, e1, e⟩ := Option.bind_eq_some_iff.mp e
      split at e
      · rename_i hz
        cases e
        obtain ⟨a, vs, rfl, h1, h2, _⟩ := rb_tup hx
        have ev := strs_rep h2 e1
        subst ev
        exact .inr ⟨a, xs, rfl, r0.ex.le.sqT h1, hz, fun p hp => k.newL r0 hp (reps_strs _)⟩
      · cases e
    · cases e
end
end Bl
/-! enumerate of a tuple. -/
namespace Bl
open PySem PySem.Spec PyProof.Rows L2 Evl
set_option maxHeartbeats 8000000 in
theorem meets_enumT {v : Value} {o : Obj} {G : Heap → Prop} (B : Begins v o G) :
    Meets (Builtin.«enumerate.__new__» ⟨[.type "enumerate", v], []⟩) (fun _ R s => G s.heap ∧
      R (.ok (.ret (.ref (s.heap.push o).objs.size))) { s with heap := (s.heap.push o).push { cls := .type "enumerate", data := .fields #[.none, .bool false, .ref s.heap.objs.size, rawInt 0, .none, .none] } }) :=
  .of_wp fun prog w A R s h => by
    obtain ⟨hp, gg, dd, tk, os⟩ := s
    obtain ⟨g1, h⟩ := h
    have hsub := sub_enumerate
    have it1 : ∀ {A' : Around} {E : Value → Shared → Prop} {Q : Value → Shared → Prop}, Q (.ref hp.objs.size) ⟨hp.push o, gg, dd, tk, os⟩ → wpAny (model prog w) A' (pyIter v) Q E ⟨hp, gg, dd, tk, os⟩ := fun q => B.iter prog w _ _ ⟨hp, gg, dd, tk, os⟩ _ g1 q
    wp_walk using it1
    refine wpAny_stack_any fun st => wpAny_pure ?_
    split
    · rename_i c _ _ _ _ _
      cases (c == Value.type "enumerate") <;> (wp_walk using it1; exact ⟨_, rfl, h⟩)
    · wp_walk using it1
      exact ⟨_, rfl, h⟩
theorem enumT_made {prog : Program} {w : World} {A : Around} {E : Value → Shared → Prop} {s : Shared} {v : Value} {o : Obj} {G : Heap → Prop} {Q : Value → Shared → Prop} (B : Begins v o G) (h1 : G s.heap)
    (h : ∀ h', IsEnum h' (s.heap.objs.size + 1) s.heap.objs.size 0 .none → h'.get? s.heap.objs.size = some o → (∀ b o, s.heap.get? b = some o → h'.get? b = some o) → Q (.ref (s.heap.objs.size + 1)) { s with heap := h' }) :
    wpAny (model prog w) A (call (.type "enumerate") [v]) Q E s := by
  have sz : (s.heap.push o).objs.size = s.heap.objs.size + 1 := Heap.size_push ..
  refine callType_new F.called_enumerate (by decide) (F.typeCall_enumerate_1 _) (F.newCall_enumerate_1 _) (fun obj => F.args_object_init_2 obj _) F.entry_enumerate_new (meets_enumT B) ⟨h1, ?_⟩
  show _ ∧ _
  rw [sz]
  have new := Heap.get?_push_size (s.heap.push o) (o := { cls := .type "enumerate", data := .fields #[.none, .bool false, .ref s.heap.objs.size, rawInt 0, .none, .none] }) rfl
  rw [sz] at new
  exact ⟨⟨_, new, rfl⟩, h _ new (Heap.get?_push_of_some _ (Heap.get?_push_size _ B.free)) fun b u e => Heap.get?_push_of_some _ (Heap.get?_push_of_some _ e)⟩
/-- the tuple at a, each item in a new pair -/
def IteT (K : PySem.W.Frag) (a : Addr) : It :=
  ⟨fun i H => ∃ (xs : List V) (x : V), SqT K H a xs ∧ xs[i]? = some x, fun i H v H' => ∃ T x, v = .ref T ∧ H T = none ∧ H' = upd H T (.tup [.int (i : Nat), x]) ∧ ∀ xs, SqT K H a xs → xs[i]? = some x, fun i H => ∃ xs : List V, SqT K H a xs ∧ xs.length ≤ i⟩
theorem turn_enumT {P : Program} {w : World} {K : PySem.W.Frag} {elts : List Expr} {kk : Nat} {tpos : Pos} (a e it : Addr) :
    Turn P w K (.Tuple elts kk tpos) (IteT K a) [e, it] e (fun i h => (∃ old, IsEnum h e it ((i : Nat) : Int) old) ∧ h.IsTupleIter it a i ∧ e ≠ it ∧ a ≠ it ∧ e ≠ a) where
  mem := by simp
  obj := fun i h st b hb => by
    obtain ⟨⟨old, he⟩, ⟨o, ho, hc, hd⟩, _⟩ := st
    rcases (by simpa using hb : b = e ∨ b = it) with rfl | rfl
    · exact ⟨_, he, fun v q => nomatch q⟩
    · exact ⟨o, ho, fun v q => by rw [hd] at q; cases q⟩
  keep := fun i h h' st k => let ⟨⟨old, he⟩, hi, hne⟩ := st; ⟨⟨old, k e (by simp) _ he⟩, hi.at fun o q => k it (by simp) o q, hne⟩
  item := by
    intro X hP hw hK hc i pins s σ H E I hf st hg
    subst hP hw hK
    obtain ⟨⟨old, he⟩, hit, hne, hai, hea⟩ := st
    obtain ⟨xs, x, hq, hx⟩ := hg
    obtain ⟨its, rv, pt, hz⟩ := I.tuple hq
    obtain ⟨u, hu, ru⟩ := rv.get hx
    have lt : i < its.toArray.size := by
      rw [List.size_toArray]
      exact (List.getElem?_eq_some_iff.mp hu).1
    have hel : e < s.heap.objs.size := Heap.lt_size he
    have hil : it < s.heap.objs.size := by obtain ⟨_, q, _⟩ := hit; exact Heap.lt_size q
    have D := Draws.tuple (prog := X.prog) (w := X.w) (A := X.A.in1) (I.ok.hd hc) it a hai its.toArray
    refine wpAny_pyNext_enum_itemD D he ⟨hit, pt⟩ lt hne (by simp [hne, hea]) fun y h' tk hy ho hs' hT hsz hk => ?_
    have ey : y = u := by
      have : its.toArray[i]? = some u := by simpa using hu
      rw [this] at hy
      exact (Option.some.inj hy).symm
    subst ey
    refine ⟨_, rfl, wpAny_letOwnedTupleGo_enum (s := { s with heap := h', toks := tk + 1 }) ho fun h'' he' sb => ?_⟩
    have hT2 : h''.get? s.heap.objs.size = some { cls := .type "tuple", data := .seq #[.int i tk, y] } := (sb.2 _ (Nat.ne_of_gt hel)).trans hT
    have ok : ObjOk X.prog X.w (upd H s.heap.objs.size (.tup [.int (i : Nat), x])) h'' s.heap.objs.size (.tup [.int (i : Nat), x]) :=
      ⟨by show 2 ≤ sizeLine; decide, [.int i tk, y], .cons ⟨_, rfl⟩ (.cons ru .nil), ⟨_, hT2, rfl, _, rfl⟩⟩
    have I1 : Inv X pins σ (upd H s.heap.objs.size (.tup [.int (i : Nat), x])) { s with heap := h'', toks := tk + 1 } :=
      I.turnedNew (ch := [e, it]) (fun b ob hb q => (sb.2 b (fun z => hb (by simp [z]))).trans (hk b ob (fun z => hb (by simp [z])) (fun z => hb (by simp [z])) q)) hf (Nat.le_refl _) ok
    refine ⟨.ref s.heap.objs.size, _, I1, rfl, ⟨_, x, rfl, I.hok.fresh (Nat.le_refl _), rfl, fun ys hy => by rw [I.tuple_inj hy hq]; exact hx⟩, ⟨⟨y, ?_⟩, hs'.1.at fun o q => (sb.2 it (Ne.symm hne)).trans q, hne, hai, hea⟩, fun b hb => ?_⟩
    · have e1 : ((i + 1 : Nat) : Int) = (i : Int) + 1 := by omega
      rw [e1]; exact he'
    · have lb : b < s.heap.objs.size := by
        rcases (by simpa using hb : b = e ∨ b = it) with rfl | rfl
        · exact hel
        · exact hil
      rw [upd_ne (Nat.ne_of_lt lb)]
      exact (hf b hb).1
  done := by
    intro X hP hw hK hc i pins s σ H E I hf st hg
    subst hP hw hK
    obtain ⟨⟨old, he⟩, hit, hne, hai, hea⟩ := st
    obtain ⟨xs, hq, hx⟩ := hg
    obtain ⟨its, rv, pt, hz⟩ := I.tuple hq
    obtain ⟨f0, f1, f2, f3, f4, f5⟩ := hf it (by simp)
    have hl := rv.length
    have end_ : its.length ≤ i := by omega
    have hT : s.TypeIs (.ref e) "enumerate" := ⟨_, he, rfl⟩
    unfold pyNext
    refine wpAny_bind (wpAny_attempt (wpAny_callSpecial?_slot (name := Str.ofString "__next__") hT F.slot_enumerate_next (wpAny_call_entry F.slot_enumerate_next hT F.entry_enumerate_next ?_ (F.args_enumerate_next_1 _))))
    show wpAny _ _ (field (.ref e) 2 >>= _) _ _ _
    refine wpAny_bind (wpAny_field he rfl (x := .ref it) rfl ?_)
    refine wpAny_bind (wpAny_nextOf_tuple_end (I.ok.hd hc) hit pt (by simpa using end_) fun h' x eb hx' => ?_)
    obtain ⟨o, ho, hcl⟩ := hx'
    refine wpAny_bind (wpAny_isInstance (T := "StopIteration") (b := true) ⟨o, ho, hcl⟩ isSubtype_stop ?_)
    exact wpAny_pure ⟨rfl, I.turned (t' := s.toks) (fun b o hb q => eb b o hb q) f0 f1 f3 f4 f5⟩
  self := fun A i s Q E st h => let ⟨⟨_, he⟩, _⟩ := st; wpAny_pyIter_enum he h
def iEnumU (K : PySem.W.Frag) (ta : TA) : TI := fun σ H R => ta σ H fun vs H1 => ∃ a xs, vs = [.ref a] ∧ ((SqL K H1 a xs ∧ R (Ite K a) H1) ∨ (SqT K H1 a xs ∧ R (IteT K a) H1))
theorem pi_enumU {X : Cx} {e : Expr} {ta : TA} {p pos tpos : Pos} {elts : List Expr} {kk : Nat} (hg : Gl X "enumerate") (hm : X.mg "enumerate" = none) (ha : PA X [e] ta) (hs : starEach [e] X.env = [(false, eval e X.env)] := by rfl) :
    PI X (.Tuple elts kk tpos) (.Call (.Name "enumerate" p) [e] [] pos) (iEnumU X.K ta) := by
  refine ⟨fun pins s σ H R I h => ?_⟩
  refine Call_ (ld_blt I hg hm boot_enumerate (PyProof.Rows.callWith_type1 (thn (ha.run pos pins s σ H _ I h) fun us s1 ⟨vs, H1, I1, r1, q1⟩ => ?_) hs rfl))
  obtain ⟨a, xs, rfl, q⟩ := q1
  obtain ⟨u, rfl, ru⟩ := vals1 r1
  obtain rfl : u = Value.ref a := ru
  have far : ∀ b : Addr, b = s1.heap.objs.size + 1 ∨ b = s1.heap.objs.size → s1.heap.objs.size ≤ b := fun b h => by
    rcases h with rfl | rfl
    · exact Nat.le_succ _
    · exact Nat.le_refl _
  rcases q with ⟨hq, q⟩ | ⟨hq, q⟩
  · obtain ⟨its, rv, pl, hz⟩ := I1.list hq
    refine call_enumerate_list pl.isList fun h' he hit hsz hk => wpAny_pyIter_enum he ?_
    exact ⟨s1.heap.objs.size + 1, [s1.heap.objs.size + 1, s1.heap.objs.size], _, _, H1, rfl, I1.kept (t' := s1.toks) hk, turn_enum a (s1.heap.objs.size + 1) s1.heap.objs.size, ⟨⟨.none, he⟩, hit, Nat.succ_ne_self _⟩, fun b hb => (I1.fpOk (far b (by simpa using hb)) (I1.hok.fresh (far b (by simpa using hb)))), q⟩
  · obtain ⟨its, rv, pt, hz⟩ := I1.tuple hq
    refine enumT_made (begins_tuple a its.toArray) pt fun h' he ho hk => wpAny_pyIter_enum he ?_
    have la : a < s1.heap.objs.size := by obtain ⟨_, q, _⟩ := pt; exact Heap.lt_size q
    exact ⟨s1.heap.objs.size + 1, [s1.heap.objs.size + 1, s1.heap.objs.size], _, _, H1, rfl, I1.kept (t' := s1.toks) hk, turn_enumT a (s1.heap.objs.size + 1) s1.heap.objs.size, ⟨⟨.none, he⟩, ⟨_, ho, rfl, rfl⟩, Nat.succ_ne_self _, Nat.ne_of_lt la, Nat.ne_of_gt (Nat.lt_succ_of_lt la)⟩, fun b hb => (I1.fpOk (far b (by simpa using hb)) (I1.hok.fresh (far b (by simpa using hb)))), q⟩
section
variable {K : PySem.W.Frag}
def cEnumU (fs : Evs) : Src := fun ρ => (fs ρ).bind fun p => match p.1 with
  | [.lst a] => some (enumF 0 a, p.2)
  | [.tup a] => some (enumF 0 a, p.2)
  | _ => none
theorem di_enumU {ta : TA} {fs : Evs} (h : DA K ta fs) : DI K (iEnumU K ta) (cEnumU fs) [] := by
  intro F σ H ρ ds ρ' Q r0 e k
  obtain ⟨⟨es, ρ1⟩, e1, e⟩ := Option.bind_eq_some_iff.mp e
  refine h F σ H ρ es ρ1 _ r0 e1 fun vs F1 H1 r1 s1 reps => ?_
  dsimp only at e
  split at e
  · cases e
    cases reps with
    | cons p1 p2 =>
      cases p2
      cases p1 with
      | @lst pa va _ hl hr =>
        refine ⟨pa, va, rfl, .inl ⟨SqL.of (r1.ex _ _ hl), k _ F1 H1 r1 s1 fun σ' ρ' F' H' r s => ?_⟩⟩
        have q1 : SqL K H' pa va := SqL.of (r.ex _ _ (s.le.l _ _ hl))
        refine ⟨fun i d hd => ?_, ⟨va, q1, by rw [enum_length, hr.length]; exact Nat.le_refl _⟩⟩
        obtain ⟨x, g1, rfl⟩ := enum_get hd
        obtain ⟨v, g3, g4⟩ := hr.get g1
        refine ⟨⟨va, v, q1, g3⟩, ?_⟩
        rintro z H'' ⟨T, x', rfl, hT, rfl, hx⟩
        have e1 := hx va q1
        rw [g3] at e1; cases e1
        rw [Nat.zero_add]
        exact new_pair r hT (.int _) (g4.mono s.le) rfl
  · cases e
    cases reps with
    | cons p1 p2 =>
      cases p2
      cases p1 with
      | @tup pa va _ hl hp hr =>
        refine ⟨pa, va, rfl, .inr ⟨r1.ex.le.sqT hl, k _ F1 H1 r1 s1 fun σ' ρ' F' H' r s => ?_⟩⟩
        have q1 : SqT K H' pa va := r.ex.le.sqT (s.le.sqT hl)
        refine ⟨fun i d hd => ?_, ⟨va, q1, by rw [enum_length, hr.length]; exact Nat.le_refl _⟩⟩
        obtain ⟨x, g1, rfl⟩ := enum_get hd
        obtain ⟨v, g3, g4⟩ := hr.get g1
        refine ⟨⟨va, v, q1, g3⟩, ?_⟩
        rintro z H'' ⟨T, x', rfl, hT, rfl, hx⟩
        have e1 := hx va q1
        rw [g3] at e1; cases e1
        rw [Nat.zero_add]
        exact new_pair r hT (.int _) (g4.mono s.le) rfl
  · cases e
end
end Bl
/-! a, b, .. = x, y, .. of any number of names; own things stay own. -/
namespace Bl
open PySem PySem.Spec PyProof.Rows L2 Evl
section
variable {K : PySem.W.Frag} {as : List Nat}
/-- values stand for operands, own ones apart from one another -/
inductive ROs (K : PySem.W.Frag) (F H : Hp) (σ : L2.St) (ρ : En) (H0 : Hp) : List V → List Opd → Prop
  | nil : ROs K F H σ ρ H0 [] []
  | cons {v : V} {w : Opd} {vs : List V} {ws : List Opd} : RO K F H σ ρ H0 v w → (∀ i, w ≠ .pl i) → (∀ (d : D) (a : Addr), w = Opd.own d → v = V.ref a → ∀ (j : Nat) (e : D), ws[j]? = some (Opd.own e) → vs[j]? ≠ some (V.ref a)) → ROs K F H σ ρ H0 vs ws → ROs K F H σ ρ H0 (v :: vs) (w :: ws)
theorem ROs.move {F F' H H' H0 : Hp} {σ : L2.St} {ρ ρ' : En} (s : Step σ ρ F H σ ρ' F' H') : ∀ {vs : List V} {ws : List Opd}, ROs K F H σ ρ H0 vs ws → ROs K F' H' σ ρ' H0 vs ws
  | _, _, .nil => .nil
  | _, _, .cons h n a t => .cons (h.move s) n a (ROs.move s t)
theorem ROs.base {F H H0 H1 : Hp} {σ : L2.St} {ρ : En} (s : ∀ a, H1 a = none → H0 a = none) : ∀ {vs : List V} {ws : List Opd}, ROs K F H σ ρ H1 vs ws → ROs K F H σ ρ H0 vs ws
  | _, _, .nil => .nil
  | _, _, .cons h n a t => .cons (h.base s) n a (ROs.base s t)
theorem ROs.length {F H H0 : Hp} {σ : L2.St} {ρ : En} : ∀ {vs : List V} {ws : List Opd}, ROs K F H σ ρ H0 vs ws → vs.length = ws.length
  | _, _, .nil => rfl
  | _, _, .cons _ _ _ t => congrArg (· + 1) (ROs.length t)
theorem ROs.fresh {F H H0 : Hp} {σ : L2.St} {ρ : En} : ∀ {vs : List V} {ws : List Opd} (j : Nat) (e : D) (a : Addr), ROs K F H σ ρ H0 vs ws → ws[j]? = some (.own e) → vs[j]? = some (.ref a) → H0 a = none
  | _, _, j, e, a, .nil, h, _ => by simp at h
  | _, _, 0, e, a, .cons h _ _ _, h1, h2 => by
    cases h1
    obtain ⟨b, eb, hb, _⟩ := h
    cases h2
    cases eb
    exact hb
  | _, _, j + 1, e, a, .cons _ _ _ t, h1, h2 => ROs.fresh j e a t (by simpa using h1) (by simpa using h2)
abbrev Evo := En → Option (List Opd × En)
def DAO (K : PySem.W.Frag) (ta : TA) (f : Evo) : Prop := ∀ (F : Hp) (σ : L2.St) (H : Hp) (ρ : En) (ws : List Opd) (ρ' : En) (Q : List V → Hp → Prop), R K F σ H ρ → f ρ = some (ws, ρ') →
  (∀ vs F' H', R K F' σ H' ρ' → Step σ ρ F H σ ρ' F' H' → ROs K F' H' σ ρ' H vs ws → Q vs H') → ta σ H Q
def oNil : Evo := fun ρ => some ([], ρ)
def oCons (f : Ev) (fs : Evo) : Evo := fun ρ => (f ρ).bind fun p => (fixO p.2 p.1).bind fun q => (fs q.2).map fun z => (q.1 :: z.1, z.2)
theorem dao_nil : DAO K tNil oNil := by
  intro F σ H ρ ws ρ' Q r e k
  cases e
  exact k [] F H r (Step.refl _ _ _ _) .nil
theorem dao_cons {te : TE} {ta : TA} {f : Ev} {fs : Evo} (h : DX K te f) (hs : DAO K ta fs) : DAO K (tCons te ta) (oCons f fs) := by
  intro F σ H ρ ws ρ' Q r e k
  obtain ⟨⟨w1, ρ1⟩, e1, e⟩ := Option.bind_eq_some_iff.mp e
  obtain ⟨⟨w2, ρ2⟩, e2, e⟩ := Option.bind_eq_some_iff.mp e
  obtain ⟨⟨ws', ρ3⟩, e3, e⟩ := Option.map_eq_some_iff.mp e
  cases e
  refine h F σ H ρ w1 ρ1 _ r e1 fun v F1 H1 r1 s1 o1 => ?_
  obtain ⟨F2, r2, s2, o2, n2⟩ := r1.fix s1 o1 e2
  refine hs F2 σ H1 ρ2 ws' ρ3 _ r2 e3 fun vs F3 H3 r3 s3 os => ?_
  refine k _ F3 H3 r3 (s2.trans s3) (.cons (o2.move s3) n2 (fun d a ew ev j e' he hv => ?_) (os.base s2.dom))
  subst ew ev
  have f := os.fresh j e' a he hv
  obtain ⟨b, eb, _, ow, _⟩ := o2
  cases eb
  exact ow.there f
def gNames : List Nat → TGs
  | [] => gNil
  | i :: is => gCons (gName i) (gNames is)
def stN : List Nat → List Opd → En → Option En
  | [], [], ρ => some ρ
  | i :: is, w :: ws, ρ => (stO i ρ w).bind (stN is ws)
  | _, _, _ => none
/-- what is stored next: in the view, or own and nobody's -/
inductive Sts (K : PySem.W.Frag) (F H : Hp) (σ : L2.St) (ρ : En) : List V → List Opd → Prop
  | nil : Sts K F H σ ρ [] []
  | val {v : V} {d : D} {vs : List V} {ws : List Opd} : Rep K F v d → Sts K F H σ ρ vs ws → Sts K F H σ ρ (v :: vs) (.val d :: ws)
  | own {a : Addr} {d : D} {vs : List V} {ws : List Opd} : Own K F H a d → ¬ Owned σ ρ a → (∀ (j : Nat) (e : D), ws[j]? = some (Opd.own e) → vs[j]? ≠ some (V.ref a)) → Sts K F H σ ρ vs ws → Sts K F H σ ρ (.ref a :: vs) (.own d :: ws)
theorem ROs.sts {F H H0 : Hp} {σ : L2.St} {ρ : En} : ∀ {vs : List V} {ws : List Opd}, ROs K F H σ ρ H0 vs ws → Sts K F H σ ρ vs ws
  | _, _, .nil => .nil
  | _, _, .cons (w := w) h n a t => by
    cases w with
    | val d => exact .val h (ROs.sts t)
    | own d =>
      obtain ⟨b, rfl, _, ow, no⟩ := h
      exact .own ow no (a d b rfl rfl) (ROs.sts t)
    | pl i => exact absurd rfl (n i)
theorem Sts.next {F H : Hp} {σ σ' : L2.St} {ρ ρ' : En} {x : Addr} (sub : ∀ b, Owned σ' ρ' b → Owned σ ρ b ∨ b = x) {vs : List V} {ws : List Opd} (h : ∀ (j : Nat) (e : D), ws[j]? = some (Opd.own e) → vs[j]? ≠ some (V.ref x)) (t : Sts K F H σ ρ vs ws) : Sts K F H σ' ρ' vs ws := by
  induction t with
  | nil => exact .nil
  | val r t ih => exact .val r (ih fun j e q => by simpa using h (j + 1) e (by simpa using q))
  | @own a d vs ws ow no ap t ih =>
    refine .own ow (fun z => (sub a z).elim no fun q => h 0 d rfl (by rw [q]; rfl)) ap (ih fun j e q => by simpa using h (j + 1) e (by simpa using q))
theorem Sts.weak {F H : Hp} {σ σ' : L2.St} {ρ ρ' : En} (sub : ∀ b, Owned σ' ρ' b → Owned σ ρ b) : ∀ {vs : List V} {ws : List Opd}, Sts K F H σ ρ vs ws → Sts K F H σ' ρ' vs ws
  | _, _, .nil => .nil
  | _, _, .val r t => .val r (Sts.weak sub t)
  | _, _, .own ow no ap t => .own ow (fun z => no (sub _ z)) ap (Sts.weak sub t)
theorem owned_setV {σ : L2.St} {ρ : En} {i : Nat} {v : V} {d : D} {b : Addr} (h : Owned (σ.set i (some v)) (ρ.set i (some (.v d))) b) : Owned σ ρ b := by
  obtain ⟨j, y, z1, z2⟩ := h
  rcases getElem?_set_some z1 with ⟨_, w⟩ | ⟨hj, w⟩
  · cases w
  · exact ⟨j, y, w, by rw [List.getElem?_set_ne (Ne.symm hj)] at z2; exact z2⟩
theorem stores {F H : Hp} : ∀ (is : List Nat) {vs : List V} {ws : List Opd} {σ : L2.St} {ρ ρ' : En} {Q : L2.St → Hp → Prop}, R K F σ H ρ → Sts K F H σ ρ vs ws → stN is ws ρ = some ρ' →
    (∀ σ', R K F σ' H ρ' → (∀ b, Owned σ' ρ' b → Owned σ ρ b ∨ ∃ (j : Nat) (e : D), ws[j]? = some (Opd.own e) ∧ vs[j]? = some (V.ref b)) → Kp is σ σ' → Q σ' H) → gNames is vs σ H Q
  | [], _, _, σ, ρ, ρ', Q, r, .nil, e, k => by
    cases e
    exact ⟨rfl, k σ r (fun b z => .inl z) (Kp.refl _ _)⟩
  | [], _, _, _, _, _, _, _, .val _ _, e, _ => by cases e
  | [], _, _, _, _, _, _, _, .own _ _ _ _, e, _ => by cases e
  | i :: is, _, _, _, _, _, _, _, .nil, e, _ => by cases e
  | i :: is, _, _, σ, ρ, ρ', Q, r, .val (v := v) (d := d) rep t, e, k => by
    obtain ⟨ρ1, e1, e⟩ := Option.bind_eq_some_iff.mp e
    cases e1
    have z := r.setV i rep
    refine ⟨_, _, rfl, stores is z.1 (t.weak fun b h => owned_setV h) e fun σ' r' sub kp => ?_⟩
    refine k σ' r' (fun b hb => ?_) fun j hj => ?_
    · rcases sub b hb with q | ⟨j, e, q1, q2⟩
      · exact .inl (owned_setV q)
      · exact .inr ⟨j + 1, e, by simpa using q1, by simpa using q2⟩
    · simp only [List.mem_cons, not_or] at hj
      exact (kp j hj.2).trans (List.getElem?_set_ne (Ne.symm hj.1))
  | i :: is, _, _, σ, ρ, ρ', Q, r, .own (a := a) (d := d) ow no ap t, e, k => by
    obtain ⟨ρ1, e1, e⟩ := Option.bind_eq_some_iff.mp e
    cases e1
    have z := r.setO i ow no
    refine ⟨_, _, rfl, stores is z.1 (t.next z.2 ap) e fun σ' r' sub kp => ?_⟩
    refine k σ' r' (fun b hb => ?_) fun j hj => ?_
    · rcases sub b hb with q | ⟨j, e, q1, q2⟩
      · rcases z.2 b q with q | q
        · exact .inl q
        · exact .inr ⟨0, d, rfl, by rw [q]; rfl⟩
      · exact .inr ⟨j + 1, e, by simpa using q1, by simpa using q2⟩
    · simp only [List.mem_cons, not_or] at hj
      exact (kp j hj.2).trans (List.getElem?_set_ne (Ne.symm hj.1))
def sParN (is : List Nat) (fs : Evo) : Sv := fun ρ => (fs ρ).bind fun p => if p.1.length ≤ 1000 then (stN is p.1 p.2).map .nx else none
theorem stN_len : ∀ {is : List Nat} {ws : List Opd} {ρ ρ' : En}, stN is ws ρ = some ρ' → ws.length = is.length
  | [], [], _, _, _ => rfl
  | [], _ :: _, _, _, h => by cases h
  | _ :: _, [], _, _, h => by cases h
  | _ :: is, _ :: ws, _, _, h => by
    obtain ⟨ρ1, _, h⟩ := Option.bind_eq_some_iff.mp h
    simp [stN_len h]
theorem ds_parN {ta : TA} {fs : Evo} {n : Nat} (is : List Nat) (hn : is.length = n) (his : ∀ j ∈ is, j ∈ as) (h : DAO K ta fs) : DS K as (tAsg (tTupF ta) (gTup K n (gNames is))) (sParN is fs) := by
  intro F σ H ρ out D r e k
  obtain ⟨⟨ws, ρ1⟩, e1, e⟩ := Option.bind_eq_some_iff.mp e
  dsimp only at e
  split at e
  · rename_i hz
    obtain ⟨ρ2, e2, e⟩ := Option.map_eq_some_iff.mp e
    cases e
    refine h F σ H ρ ws ρ1 _ r e1 fun vs F1 H1 r1 s1 os => ⟨szl (by rw [os.length]; omega), fun p o hp _ => ?_⟩
    have z := r1.newOwn (o := .frz o (.tup vs)) hp
    have os2 := os.move z.2.1
    refine ⟨p, vs, rfl, .inl (.inr ⟨o, upd_same⟩), ?_, ?_⟩
    · rw [os.length, stN_len e2]; exact hn
    · refine stores is z.1 os2.sts e2 fun σ' r' sub kp => ?_
      refine k σ' F1 _ r' ?_ (kp.wide his)
      have kp1 : ∀ a u, H a = some u → ¬ Owned σ ρ a → upd H1 p (.frz o (.tup vs)) a = some u := fun a u ha na => z.2.1.keep a u (s1.keep a u ha na) fun q => (s1.sub a q).elim na fun w => (by rw [w] at ha; cases ha)
      refine ⟨s1.le.trans z.2.1.le, kp1, fun a ha => s1.dom a (z.2.1.dom a ha), fun a ha na => s1.frz a ha na, fun a ha => ?_⟩
      rcases sub a ha with q | ⟨j, e, q1, q2⟩
      · exact s1.sub a q
      · exact .inr (os.fresh j e a q1 q2)
  · cases e
end
end Bl
/-! An object of one's own with a list of its own in a slot (class Run): looks at it, changes of it. -/
namespace Bl
open PySem PySem.Spec PyProof.Rows L2 Evl
section
variable {K : PySem.W.Frag} {as : List Nat} {F F' H H' : Hp} {σ σ' : L2.St} {ρ ρ' : En} {x dx b : Addr} {pl rw ru : D} {off : List D}
theorem R.put {i : Nat} {v : V} {d : D} (r : R K F σ H ρ) (h : σ[i]? = some (some v)) (rep : Rep K F v d) : R K F σ H (ρ.set i (some (.v d))) := by
  refine ⟨r.ex, r.dom, by simpa using r.len, fun j y z => ?_, fun j y z => ?_, fun j k y y' a z z' => ?_⟩
  · rcases getElem?_set_some z with ⟨hj, w⟩ | ⟨_, w⟩
    · cases w; subst hj; exact ⟨v, h, rep⟩
    · exact r.val j y w
  · rcases getElem?_set_some z with ⟨_, w⟩ | ⟨_, w⟩
    · cases w
    · exact r.own j y w
  · rcases getElem?_set_some z with ⟨_, w⟩ | ⟨_, w⟩
    · cases w
    · rcases getElem?_set_some z' with ⟨_, w'⟩ | ⟨_, w'⟩
      · cases w'
      · exact r.sep j k y y' a w w'
/-- the object at x (its dict at dx, the list in its second slot at b): nobody's -/
structure Rn (K : PySem.W.Frag) (F : Hp) (σ : L2.St) (H : Hp) (ρ : En) (x dx b : Addr) (pl : D) (off : List D) (rw ru : D) : Prop where
  at_ : ∃ v0 v2 v3, H x = some (SlX.SlO x (He.ga K "Run") dx [some v0, some (.ref b), some v2, some v3]) ∧ Rep K F v0 pl ∧ Rep K F v2 rw ∧ Rep K F v3 ru
  hd : H dx = some (.xd [])
  hb : ∃ us, H b = some (.lst us) ∧ Reps K F us off
  fx : F x = none
  fd : F dx = none
  fb : F b = none
  nx : ¬ Owned σ ρ x
  nd : ¬ Owned σ ρ dx
  nb : ¬ Owned σ ρ b
  ne1 : dx ≠ x
  ne2 : b ≠ x
  ne3 : b ≠ dx
theorem Rn.hx (n : Rn K F σ H ρ x dx b pl off rw ru) : H x ≠ none := by obtain ⟨_, _, _, e, _⟩ := n.at_; rw [e]; simp
theorem Rn.hd' (n : Rn K F σ H ρ x dx b pl off rw ru) : H dx ≠ none := by rw [n.hd]; simp
theorem Rn.hb' (n : Rn K F σ H ρ x dx b pl off rw ru) : H b ≠ none := by obtain ⟨_, e, _⟩ := n.hb; rw [e]; simp
theorem Rn.step (n : Rn K F σ H ρ x dx b pl off rw ru) (s : Step σ ρ F H σ' ρ' F' H') : Rn K F' σ' H' ρ' x dx b pl off rw ru where
  at_ := by
    obtain ⟨v0, v2, v3, e, r0, r2, r3⟩ := n.at_
    exact ⟨v0, v2, v3, (s.stay n.hx n.nx).trans e, r0.mono s.le, r2.mono s.le, r3.mono s.le⟩
  hd := (s.stay n.hd' n.nd).trans n.hd
  hb := by
    obtain ⟨us, e, r⟩ := n.hb
    exact ⟨us, (s.stay n.hb' n.nb).trans e, r.mono s.le⟩
  fx := (s.frz x n.hx n.nx).trans n.fx
  fd := (s.frz dx n.hd' n.nd).trans n.fd
  fb := (s.frz b n.hb' n.nb).trans n.fb
  nx := fun z => (s.sub x z).elim n.nx n.hx
  nd := fun z => (s.sub dx z).elim n.nd n.hd'
  nb := fun z => (s.sub b z).elim n.nb n.hb'
  ne1 := n.ne1
  ne2 := n.ne2
  ne3 := n.ne3
def runD (pl : D) (off : List D) (rw ru : D) : D := .obj "Run" [some pl, some (.lst off), some rw, some ru]
/-- the object is given to the view -/
theorem Rn.share (n : Rn K F σ H ρ x dx b pl off rw ru) (r : R K F σ H ρ) : ∃ F1, R K F1 σ H ρ ∧ Ex F F1 ∧ (∀ a, a ≠ x → a ≠ dx → a ≠ b → F1 a = F a) ∧ F1 x = H x ∧ F1 dx = H dx ∧ F1 b = H b ∧ Rep K F1 (.ref x) (runD pl off rw ru) := by
  obtain ⟨v0, v2, v3, ex0, q0, q2, q3⟩ := n.at_
  obtain ⟨us, eb, qb⟩ := n.hb
  have x1 : Ex F (upd F b (.lst us)) := Ex.new n.fb
  have x2 : Ex (upd F b (.lst us)) (upd (upd F b (.lst us)) dx (.xd [])) := Ex.new ((upd_ne n.ne3.symm).trans n.fd)
  have x3 : Ex (upd (upd F b (.lst us)) dx (.xd [])) (upd (upd (upd F b (.lst us)) dx (.xd [])) x (SlX.SlO x (He.ga K "Run") dx [some v0, some (.ref b), some v2, some v3])) := Ex.new (((upd_ne n.ne1.symm).trans (upd_ne n.ne2.symm)).trans n.fx)
  have ex := x1.trans (x2.trans x3)
  generalize hF : upd (upd (upd F b (.lst us)) dx (.xd [])) x (SlX.SlO x (He.ga K "Run") dx [some v0, some (.ref b), some v2, some v3]) = F1 at ex
  have gx : F1 x = some (SlX.SlO x (He.ga K "Run") dx [some v0, some (.ref b), some v2, some v3]) := by rw [← hF, upd_same]
  have gd : F1 dx = some (.xd []) := by rw [← hF, upd_ne n.ne1, upd_same]
  have gb : F1 b = some (.lst us) := by rw [← hF, upd_ne n.ne2, upd_ne n.ne3, upd_same]
  have go : ∀ a, a ≠ x → a ≠ dx → a ≠ b → F1 a = F a := fun a h1 h2 h3 => by rw [← hF, upd_ne h1, upd_ne h2, upd_ne h3]
  refine ⟨F1, ⟨fun a u h => ?_, fun a h => ?_, r.len, fun i d h => ?_, fun i d h => ?_, r.sep⟩, ex, go, gx.trans ex0.symm, gd.trans n.hd.symm, gb.trans eb.symm, ?_⟩
  · by_cases h1 : a = x
    · subst h1; rw [gx] at h; rw [ex0]; exact h
    · by_cases h2 : a = dx
      · subst h2; rw [gd] at h; rw [n.hd]; exact h
      · by_cases h3 : a = b
        · subst h3; rw [gb] at h; rw [eb]; exact h
        · rw [go a h1 h2 h3] at h; exact r.ex a u h
  · have h1 : a ≠ x := fun z => n.hx (z ▸ h)
    have h2 : a ≠ dx := fun z => n.hd' (z ▸ h)
    have h3 : a ≠ b := fun z => n.hb' (z ▸ h)
    rw [go a h1 h2 h3]; exact r.dom a h
  · obtain ⟨v, g1, g2⟩ := r.val i d h
    exact ⟨v, g1, g2.mono ex.le⟩
  · obtain ⟨a, g1, g2⟩ := r.own i d h
    refine ⟨a, g1, g2.move ex.le (go a (fun z => n.nx ⟨i, d, h, by rw [← z]; exact g1⟩) (fun z => n.nd ⟨i, d, h, by rw [← z]; exact g1⟩) (fun z => n.nb ⟨i, d, h, by rw [← z]; exact g1⟩)) rfl⟩
  · exact .obj (.inr ⟨gx, gd⟩) (.some (q0.mono ex.le) (.some (.lst gb (qb.mono ex.le)) (.some (q2.mono ex.le) (.some (q3.mono ex.le) .nil))))
/-- a flat thing, or a new list of flat things -/
def flatO : Opd → Bool
  | .val d => flatD d
  | .own d => flatL d
  | .pl _ => false
/-- a look at the object in slot i -/
def sLook (i : Nat) (d : D) (f : Ev) : Ev := fun ρ => (f (ρ.set i (some (.v d)))).bind fun p => if flatO p.1 = true then (borL (ρ.set i (some (.v d))) p.2).map fun ρ' => (p.1, ρ'.set i none) else none
theorem lookR {te : TE} {f : Ev} {i : Nat} {w : Opd} {Q : VK} (h : DX K te f) (r : R K F σ H ρ) (n : Rn K F σ H ρ x dx b pl off rw ru) (hi : σ[i]? = some (some (.ref x))) (e : sLook i (runD pl off rw ru) f ρ = some (w, ρ'))
    (k : ∀ v H', R K F σ H' ρ' → Step σ ρ F H σ ρ' F H' → RO K F H' σ ρ' H v w → Rn K F σ H' ρ' x dx b pl off rw ru → Q v H') : te σ H Q := by
  obtain ⟨⟨w1, ρ1⟩, e1, e⟩ := Option.bind_eq_some_iff.mp e
  dsimp only at e
  split at e
  rotate_left
  · cases e
  rename_i hfl
  obtain ⟨ρ2, e2, e⟩ := Option.map_eq_some_iff.mp e
  cases e
  obtain ⟨F1, r1, ex, go, gx, gd, gb, rep⟩ := n.share r
  have rp := r1.put (i := i) hi rep
  have own1 : ∀ a, Owned σ (ρ.set i (some (.v (runD pl off rw ru)))) a → Owned σ ρ a := fun a ⟨j, d, q, z⟩ => by
    rcases getElem?_set_some q with ⟨_, w⟩ | ⟨_, w⟩
    · cases w
    · exact ⟨j, d, w, z⟩
  refine h F1 σ H _ w ρ1 Q rp e1 fun v F2 H2 r2 s2 o2 => ?_
  generalize hρ : ρ.set i (some (.v (runD pl off rw ru))) = ρ0 at *
  have get0 : ∀ (j : Nat) (e : Option Ent), j ≠ i → ρ0[j]? = some e → ρ[j]? = some e := fun j e hj q => by rw [← hρ, List.getElem?_set_ne (Ne.symm hj)] at q; exact q
  -- the slots behind the look
  have valb : ∀ (j : Nat) (d : D), (ρ2.set i none)[j]? = some (some (.v d)) → ρ[j]? = some (some (.v d)) := fun j d q => by
    rcases getElem?_set_some q with ⟨_, w⟩ | ⟨hj, q⟩
    · cases w
    · have g := borL_get j e2
      have hl : j < ρ0.length := by rw [← g.1]; exact (List.getElem?_eq_some_iff.mp q).1
      obtain ⟨y, y1, y2⟩ := g.2 ρ0[j] (List.getElem?_eq_getElem hl)
      rw [q] at y1
      cases y1
      refine get0 j _ hj ?_
      rw [List.getElem?_eq_getElem hl]
      cases hx : ρ0[j] with
      | none => rw [hx] at y2; simp [bor1] at y2
      | some z =>
        cases z with
        | v z => rw [hx] at y2; simp [bor1] at y2; rw [y2]
        | o z =>
          rw [hx] at y2
          cases hz : (ρ1[j]?).getD none with
          | none => rw [hz] at y2; simp [bor1] at y2
          | some u =>
            rw [hz] at y2
            simp only [bor1] at y2
            split at y2 <;> cases y2
  have back : ∀ (j : Nat) (d : D), (ρ2.set i none)[j]? = some (some (.o d)) → ∃ d0, ρ[j]? = some (some (.o d0)) ∧ flatL d = true ∧ (ρ1[j]? = some (some (.o d)) ∨ ρ1[j]? = some (some (.v d))) := fun j d q => by
    rcases getElem?_set_some q with ⟨_, w⟩ | ⟨hj, q⟩
    · cases w
    · have g := borL_get j e2
      have hl : j < ρ0.length := by rw [← g.1]; exact (List.getElem?_eq_some_iff.mp q).1
      obtain ⟨y, y1, y2⟩ := g.2 ρ0[j] (List.getElem?_eq_getElem hl)
      rw [q] at y1
      cases y1
      cases hx : ρ0[j] with
      | none => rw [hx] at y2; simp [bor1] at y2
      | some z =>
        cases z with
        | v z => rw [hx] at y2; simp [bor1] at y2
        | o z =>
          rw [hx] at y2
          cases hz : ρ1[j]? with
          | none => rw [hz] at y2; simp [bor1] at y2
          | some u =>
            rw [hz] at y2
            cases u with
            | none => simp [bor1] at y2
            | some u =>
              simp only [Option.getD_some, bor1] at y2
              split at y2
              · rename_i hq
                cases y2
                refine ⟨z, get0 j _ hj (by rw [List.getElem?_eq_getElem hl, hx]), hq, ?_⟩
                cases u with
                | v t => exact .inr rfl
                | o t => exact .inl rfl
              · cases y2
  have ownb : ∀ a, Owned σ (ρ2.set i none) a → Owned σ ρ a := fun a ⟨j, d, q, z⟩ => by
    obtain ⟨d0, q0, _⟩ := back j d q
    exact ⟨j, d0, q0, z⟩
  have len : (ρ2.set i none).length = σ.length := by
    rw [List.length_set, (borL_get 0 e2).1, ← hρ, List.length_set]; exact r.len
  have keep : ∀ a u, H a = some u → ¬ Owned σ ρ a → H2 a = some u := fun a u ha na => s2.keep a u ha fun z => na (own1 a z)
  have rr : R K F σ H2 (ρ2.set i none) := by
    refine ⟨fun a u ha => ?_, fun a ha => r.dom a (s2.dom a ha), len, fun j d q => r.val j d (valb j d q), fun j d q => ?_, fun j l d e a q q' z z' => ?_⟩
    · refine keep a u (r.ex a u ha) fun ⟨j, d, q, z⟩ => ?_
      obtain ⟨c, h1, h2⟩ := r.own j d q
      have e3 : some (some (V.ref a)) = some (some (.ref c)) := z.symm.trans h1
      cases e3
      rw [h2.free] at ha
      cases ha
    · obtain ⟨d0, q0, hf, q1⟩ := back j d q
      obtain ⟨a, h1, h2⟩ := r.own j d0 q0
      refine ⟨a, h1, ?_⟩
      cases d with
      | lst ds =>
        refine ⟨h2.free, ?_⟩
        rcases q1 with q1 | q1
        · obtain ⟨c, g1, g2⟩ := r2.own j _ q1
          have e3 : some (some (V.ref a)) = some (some (.ref c)) := h1.symm.trans g1
          cases e3
          obtain ⟨_, us, hv, rr⟩ := g2
          exact ⟨us, hv, reps_flatB hf rr⟩
        · obtain ⟨u, g1, g2⟩ := r2.val j _ q1
          have e3 : some (some (V.ref a)) = some (some u) := h1.symm.trans g1
          cases e3
          cases g2 with
          | lst hv rr => exact ⟨_, r2.ex _ _ hv, reps_flatB hf rr⟩
      | _ => cases hf
    · obtain ⟨d0, q0, _⟩ := back j d q
      obtain ⟨e0, q0', _⟩ := back l e q'
      exact r.sep j l d0 e0 a q0 q0' z z'
  have ss : Step σ ρ F H σ (ρ2.set i none) F H2 := ⟨Le.refl _, keep, s2.dom, fun _ _ _ => rfl, fun a z => .inl (ownb a z)⟩
  refine k v H2 rr ss ?_ (n.step ss)
  cases w with
  | val d => exact rep_flatB hfl o2
  | own d =>
    obtain ⟨a, rfl, h0, ow, _⟩ := o2
    refine ⟨a, rfl, h0, ?_, fun z => r.notO h0 (ownb a z)⟩
    cases d with
    | lst ds =>
      obtain ⟨_, us, hv, rr⟩ := ow
      exact ⟨r.dom a h0, us, hv, reps_flatB hfl rr⟩
    | _ => cases hfl
  | pl j => cases hfl
end
end Bl
/-! A method that changes its own object (class Run): what stays, statement by statement. -/
namespace Bl
open PySem PySem.Spec PyProof.Rows L2 Evl
section
variable {K : PySem.W.Frag} {F0 H0 F F' H H' : Hp} {σ σ' : L2.St} {ρ ρ' : En} {x dx b : Addr} {pl rw ru : D} {off : List D}
structure Rf (K : PySem.W.Frag) (F0 H0 : Hp) (x dx b : Addr) (F : Hp) (σ : L2.St) (H : Hp) (ρ : En) (pl : D) (off : List D) (rw ru : D) : Prop where
  r : R K F σ H ρ
  n : Rn K F σ H ρ x dx b pl off rw ru
  s0 : σ[0]? = some (some (.ref x))
  le : Le F0 F
  keep : ∀ a o, a ≠ x → a ≠ dx → a ≠ b → H0 a = some o → H a = some o
  dom : ∀ a, H a = none → H0 a = none
  frz : ∀ a, H0 a ≠ none → F a = F0 a
  new : ∀ a, Owned σ ρ a → H0 a = none
theorem Rf.step (o : Rf K F0 H0 x dx b F σ H ρ pl off rw ru) (r' : R K F' σ' H' ρ') (s : Step σ ρ F H σ' ρ' F' H') (h0 : σ'[0]? = σ[0]?) : Rf K F0 H0 x dx b F' σ' H' ρ' pl off rw ru where
  r := r'
  n := o.n.step s
  s0 := h0.trans o.s0
  le := o.le.trans s.le
  keep := fun a u h1 h2 h3 h => s.keep a u (o.keep a u h1 h2 h3 h) fun z => by rw [o.new a z] at h; cases h
  dom := fun a h => o.dom a (s.dom a h)
  frz := fun a h => (s.frz a (fun z => h (o.dom a z)) fun z => h (o.new a z)).trans (o.frz a h)
  new := fun a z => (s.sub a z).elim (o.new a) (o.dom a)
abbrev Rv := En → List D → D → Option (En × List D × D)
def DR (K : PySem.W.Frag) (pl ru : D) (ts : TS) (g : Rv) : Prop := ∀ (F0 H0 : Hp) (x dx b : Addr) (F : Hp) (σ : L2.St) (H : Hp) (ρ : En) (off : List D) (rw : D) (ρ' : En) (off' : List D) (rw' : D) (E : Ends), Rf K F0 H0 x dx b F σ H ρ pl off rw ru → g ρ off rw = some (ρ', off', rw') →
  (∀ σ' F' H', Rf K F0 H0 x dx b F' σ' H' ρ' pl off' rw' ru → E.nx σ' H') → ts E σ H
theorem dx_tb {tt : TT} {s : Tv} (h : DT K tt s) : DX K (fun σ H Q => tt σ H fun c H1 => Q (.bl c) H1) (sTB s) := by
  intro F σ H ρ w ρ' Q r0 e k
  obtain ⟨⟨c, ρ1⟩, e1, e⟩ := Option.map_eq_some_iff.mp e
  cases e
  exact h F σ H ρ c ρ1 _ r0 e1 fun F1 H1 r1 s1 => k _ F1 H1 r1 s1 (.bl c)
def rSeq (f g : Rv) : Rv := fun ρ off rw => (f ρ off rw).bind fun z => g z.1 z.2.1 z.2.2
theorem dr_seq {t u : TS} {f g : Rv} (h1 : DR K pl ru t f) (h2 : DR K pl ru u g) : DR K pl ru (tSeq t u) (rSeq f g) := by
  intro F0 H0 x dx b F σ H ρ off rw ρ' off' rw' E o e k
  obtain ⟨⟨ρ1, off1, rw1⟩, e1, e⟩ := Option.bind_eq_some_iff.mp e
  exact h1 F0 H0 x dx b F σ H ρ off rw ρ1 off1 rw1 _ o e1 fun σ1 F1 H1 o1 => h2 F0 H0 x dx b F1 σ1 H1 ρ1 off1 rw1 ρ' off' rw' E o1 e k
/-- i = a look -/
def rLook (pl ru : D) (i : Nat) (f : Ev) : Rv := fun ρ off rw => (sLook 0 (runD pl off rw ru) f ρ).bind fun p => (stO i p.2 p.1).map fun ρ' => (ρ', off, rw)
theorem dr_look {te : TE} {f : Ev} {i : Nat} (hi : i ≠ 0) (h : DX K te f) : DR K pl ru (tAsg te (gName i)) (rLook pl ru i f) := by
  intro F0 H0 x dx b F σ H ρ off rw ρ' off' rw' E o e k
  obtain ⟨⟨w, ρ1⟩, e1, e⟩ := Option.bind_eq_some_iff.mp e
  obtain ⟨ρ2, e2, e⟩ := Option.map_eq_some_iff.mp e
  cases e
  refine lookR h o.r o.n o.s0 e1 fun v H1 r1 s1 o1 n1 => ?_
  obtain ⟨F2, r2, s2⟩ := r1.store s1 o1 e2
  exact k _ F2 H1 (o.step r2 s2 (List.getElem?_set_ne hi))
/-- a statement that does not look at the object -/
def rPl (f : Sv) : Rv := fun ρ off rw => match f ρ with
  | some (.nx ρ') => some (ρ', off, rw)
  | _ => none
theorem dr_pl {as : List Nat} {ts : TS} {f : Sv} (h0 : 0 ∉ as) (h : DS K as ts f) : DR K pl ru ts (rPl f) := by
  intro F0 H0 x dx b F σ H ρ off rw ρ' off' rw' E o e k
  unfold rPl at e
  split at e
  · rename_i ρ1 e1
    cases e
    exact h F σ H ρ _ E o.r e1 fun σ' F' H' r' s' kp => k σ' F' H' (o.step r' s' (kp 0 h0))
  · cases e
/-- if look: .. -/
def rIf (pl ru : D) (c : Tv) (f g : Rv) : Rv := fun ρ off rw => (sLook 0 (runD pl off rw ru) (sTB c) ρ).bind fun p => match p.1 with
  | .val (.bl true) => f p.2 off rw
  | .val (.bl false) => g p.2 off rw
  | _ => none
theorem dr_if {tt : TT} {c : Tv} {t u : TS} {f g : Rv} (h : DT K tt c) (h1 : DR K pl ru t f) (h2 : DR K pl ru u g) : DR K pl ru (tIfS tt t u) (rIf pl ru c f g) := by
  intro F0 H0 x dx b F σ H ρ off rw ρ' off' rw' E o e k
  obtain ⟨⟨w, ρ1⟩, e1, e⟩ := Option.bind_eq_some_iff.mp e
  have z := lookR (dx_tb h) (Q := fun v H1 => if v = .bl true then t E σ H1 else if v = .bl false then u E σ H1 else False) o.r o.n o.s0 e1 (by
    intro v H1 r1 s1 o1 n1
    dsimp only at e
    split at e
    · cases o1
      rw [if_pos rfl]
      exact h1 F0 H0 x dx b F σ H1 ρ1 off rw ρ' off' rw' E (o.step r1 s1 rfl) e k
    · cases o1
      rw [if_neg (by simp), if_pos rfl]
      exact h2 F0 H0 x dx b F σ H1 ρ1 off rw ρ' off' rw' E (o.step r1 s1 rfl) e k
    · cases e)
  · have z : tt σ H (fun c H1 => if V.bl c = .bl true then t E σ H1 else if V.bl c = .bl false then u E σ H1 else False) := z
    have q : (fun (c : Bool) H1 => if V.bl c = .bl true then t E σ H1 else if V.bl c = .bl false then u E σ H1 else False) = fun (c : Bool) H1 => if c = true then t E σ H1 else u E σ H1 := by
      funext c H1
      cases c <;> simp
    rw [q] at z
    exact z
/-- i = f if look else g -/
def rSetIf (pl ru : D) (i : Nat) (c : Tv) (f g : Ev) : Rv := rIf pl ru c (rPl (sSet i f)) (rPl (sSet i g))
theorem dr_setIf {tt : TT} {c : Tv} {t u : TE} {f g : Ev} {i : Nat} (hi : i ≠ 0) (h : DT K tt c) (h1 : DX K t f) (h2 : DX K u g) : DR K pl ru (tAsg (tIf tt t u) (gName i)) (rSetIf pl ru i c f g) := by
  intro F0 H0 x dx b F σ H ρ off rw ρ' off' rw' E o e k
  have z := dr_if h (dr_pl (K := K) (pl := pl) (ru := ru) (as := [i]) (by simpa using hi.symm) (ds_set i (by simp) h1)) (dr_pl (K := K) (pl := pl) (ru := ru) (as := [i]) (by simpa using hi.symm) (ds_set i (by simp) h2)) F0 H0 x dx b F σ H ρ off rw ρ' off' rw' E o e k
  have z : tt σ H (fun c H1 => if c = true then t σ H1 (fun v H2 => gName i v σ H2 E.nx) else u σ H1 (fun v H2 => gName i v σ H2 E.nx)) := z
  exact z
/-- self.own_refused.append(slot i) -/
def rOff (i : Nat) : Rv := fun ρ off rw => match ρ[i]? with
  | some (some (.v d)) => if off.length < 1000000 then some (ρ, off ++ [d], rw) else none
  | _ => none
theorem dr_off {i : Nat} {p : Addr} (hc : SlX.SCls K (He.ga K "Run")) (hs : SlX.Slot1 K (He.ga K "Run") "own_refused" p 1) : DR K pl ru (tDrop (tBM K "list" rAppend (SlX.tSl K (tVar 0) "own_refused") (tCons (tVar i) tNil))) (rOff i) := by
  intro F0 H0 x dx b F σ H ρ off rw ρ' off' rw' E o e k
  unfold rOff at e
  split at e
  · rename_i d hd
    split at e
    · rename_i hz
      cases e
      obtain ⟨v, hv, rep⟩ := o.r.val i d hd
      obtain ⟨v0, v2, v3, ex, q0, q2, q3⟩ := o.n.at_
      obtain ⟨us, eb, qb⟩ := o.n.hb
      refine ⟨_, o.s0, x, _, dx, p, _, 1, .ref b, rfl, .inr ⟨ex, o.n.hd⟩, hc, hs, rfl, .inl ⟨rfl, us, SqL.of eb⟩, v, hv, b, us, v, rfl, rfl, eb, by rw [qb.length]; exact szlt hz, ?_⟩
      have nb : ∀ a, a ≠ b → upd H b (.lst (us ++ [v])) a = H a := fun a h => upd_ne h
      refine k σ F _ ⟨o.r.touch o.n.fb o.n.nb, ⟨⟨v0, v2, v3, (upd_ne o.n.ne2.symm).trans ex, q0, q2, q3⟩, (upd_ne o.n.ne3.symm).trans o.n.hd, ⟨_, upd_same, qb.append (.cons rep .nil)⟩, o.n.fx, o.n.fd, o.n.fb, o.n.nx, o.n.nd, o.n.nb, o.n.ne1, o.n.ne2, o.n.ne3⟩, o.s0, o.le, fun a u h1 h2 h3 h => (nb a h3).trans (o.keep a u h1 h2 h3 h), fun a h => ?_, o.frz, o.new⟩
      by_cases z : a = b
      · subst z; rw [upd_same] at h; cases h
      · rw [nb a z] at h; exact o.dom a h
    · cases e
  · cases e
/-- self.own_row = look -/
def rRow (pl ru : D) (f : Ev) : Rv := fun ρ off rw => (sLook 0 (runD pl off rw ru) f ρ).bind fun p => (rel p.2 p.1).map fun q => (q.2, off, q.1)
theorem dr_row {te : TE} {f : Ev} {p : Addr} (hc : SlX.SCls K (He.ga K "Run")) (hs : SlX.Slot1 K (He.ga K "Run") "own_row" p 2) (h : DX K te f) : DR K pl ru (SlX.sSl K (tVar 0) te "own_row") (rRow pl ru f) := by
  intro F0 H0 x dx b F σ H ρ off rw ρ' off' rw' E o e k
  obtain ⟨⟨w, ρ1⟩, e1, e⟩ := Option.bind_eq_some_iff.mp e
  obtain ⟨⟨d, ρ2⟩, e2, e⟩ := Option.map_eq_some_iff.mp e
  cases e
  refine lookR h o.r o.n o.s0 e1 fun v H1 r1 s1 o1 n1 => ?_
  obtain ⟨F2, r2, s2, rep⟩ := r1.rel s1 o1 e2
  have o2 := o.step r2 s2 rfl
  obtain ⟨v0, v2, v3, ex, q0, q2, q3⟩ := o2.n.at_
  refine ⟨_, o2.s0, x, _, dx, p, _, 2, rfl, .inr ⟨ex, o2.n.hd⟩, hc, hs, ?_⟩
  have n := o2.n
  refine k σ F2 _ ⟨(r2.touch n.fd n.nd).touch n.fx n.nx, ⟨⟨v0, v, v3, upd_same, q0, rep, q3⟩, (upd_ne n.ne1).trans upd_same, ?_, n.fx, n.fd, n.fb, n.nx, n.nd, n.nb, n.ne1, n.ne2, n.ne3⟩, o2.s0, o2.le, fun a u h1 h2 h3 h => ?_, fun a h => ?_, o2.frz, o2.new⟩
  · obtain ⟨us, eb, qb⟩ := n.hb
    exact ⟨us, ((upd_ne n.ne2).trans (upd_ne n.ne3)).trans eb, qb⟩
  · exact ((upd_ne h1).trans (upd_ne h2)).trans (o2.keep a u h1 h2 h3 h)
  · unfold SlX.slH at h
    by_cases h3 : a = x
    · subst h3; rw [upd_same] at h; cases h
    · rw [upd_ne h3] at h
      by_cases h4 : a = dx
      · subst h4; rw [upd_same] at h; cases h
      · rw [upd_ne h4] at h; exact o2.dom a h
def rNext : Rv := fun ρ off rw => some (ρ, off, rw)
/-! ### the promise of such a method -/
def spR (K : PySem.W.Frag) (m : D → List D → D → D → D → D → Option (List D × D)) : Sp := fun vs H Q _ => ∃ x dx b F pl off rw ru u1 u2 d1 d2 off' rw', vs = [.ref x, u1, u2] ∧ Ex F H ∧ (∀ a, H a = none → F a = none) ∧ Rn K F [] H [] x dx b pl off rw ru ∧
  Rep K F u1 d1 ∧ Rep K F u2 d2 ∧ m pl off rw ru d1 d2 = some (off', rw') ∧
  ∀ F' H', (∀ a o, a ≠ x → a ≠ dx → a ≠ b → H a = some o → H' a = some o) → (∀ a, H' a = none → H a = none) → Ex F' H' → (∀ a, H' a = none → F' a = none) → Le F F' → (∀ a, H a ≠ none → F' a = F a) → Rn K F' [] H' [] x dx b pl off' rw' ru → Q .non H'
theorem spR_len {m : D → List D → D → D → D → D → Option (List D × D)} {vs : List V} {Q : VK} {E : XK} (h : spR K m vs H Q E) : vs.length = 3 := by
  obtain ⟨_, _, _, _, _, _, _, _, _, _, _, _, _, _, rfl, _⟩ := h
  rfl
def startR (k : Nat) (d1 d2 : D) : En := none :: some (.v d1) :: some (.v d2) :: List.replicate k none
theorem startR_own {k : Nat} {d1 d2 : D} {i : Nat} {e : D} : (startR k d1 d2)[i]? ≠ some (some (.o e)) := fun h => by
  rcases i with _ | _ | _ | i
  · cases h
  · cases h
  · cases h
  · have h : (List.replicate k (none : Option Ent))[i]? = some (some (.o e)) := h
    rw [List.getElem?_replicate] at h
    split at h <;> cases h
theorem fn_R {N : List Str} {k : Nat} {tt : TS} {g : D → D → Rv} {m : D → List D → D → D → D → D → Option (List D × D)} {vs : List V} {Q : VK} {E : XK} (hN : N.length = k + 3) (hd : ∀ pl ru, DR K pl ru tt (g pl ru))
    (hm : ∀ pl off rw ru d1 d2 z, m pl off rw ru d1 d2 = some z → ∃ ρ', g pl ru (startR k d1 d2) off rw = some (ρ', z.1, z.2)) (h : spR K m vs H Q E) : tt { nx := fun _ H' => Q .non H', rt := Q } (start N vs) H := by
  obtain ⟨x, dx, b, F, pl, off, rw, ru, u1, u2, d1, d2, off', rw', rfl, ex, dom, n, r1, r2, e, kk⟩ := h
  obtain ⟨ρ', e⟩ := hm _ _ _ _ _ _ _ e
  have nO : ∀ a, ¬ Owned (start N [.ref x, u1, u2]) (startR k d1 d2) a := fun a ⟨i, d, h, _⟩ => startR_own h
  have st : start N [.ref x, u1, u2] = some (.ref x) :: some u1 :: some u2 :: List.replicate k none := by
    unfold L2.start
    simp [hN]
  have rr : R K F (start N [.ref x, u1, u2]) H (startR k d1 d2) := by
    refine ⟨ex, dom, ?_, fun i e h => ?_, fun i e h => absurd h startR_own, fun i j e f a h => absurd h startR_own⟩
    · rw [st]; simp [startR]
    · rw [st]
      rcases i with _ | _ | _ | i
      · cases h
      · cases h; exact ⟨u1, rfl, r1⟩
      · cases h; exact ⟨u2, rfl, r2⟩
      · have h : (List.replicate k (none : Option Ent))[i]? = some (some (.v e)) := h
        rw [List.getElem?_replicate] at h
        split at h <;> cases h
  have o : Rf K F H x dx b F (start N [.ref x, u1, u2]) H (startR k d1 d2) pl off rw ru := ⟨rr, ⟨n.at_, n.hd, n.hb, n.fx, n.fd, n.fb, nO x, nO dx, nO b, n.ne1, n.ne2, n.ne3⟩, by rw [st]; rfl, Le.refl _, fun _ _ _ _ _ h => h, fun _ h => h, fun _ _ => rfl, fun a z => absurd z (nO a)⟩
  have em : ∀ a, ¬ Owned ([] : L2.St) ([] : En) a := fun a ⟨i, d, h, _⟩ => by cases h
  exact hd pl ru F H x dx b F _ H _ off rw ρ' off' rw' _ o e fun σ' F' H' o' => kk F' H' o'.keep o'.dom o'.r.ex o'.r.dom o'.le o'.frz ⟨o'.n.at_, o'.n.hd, o'.n.hb, o'.n.fx, o'.n.fd, o'.n.fb, em x, em dx, em b, o'.n.ne1, o'.n.ne2, o'.n.ne3⟩
end
end Bl
/-! class Run: made, called in a loop, told. -/
namespace Bl
open PySem PySem.Spec PyProof.Rows L2 Evl
section
variable {K : PySem.W.Frag} {as : List Nat} {F0 H0 F F' H H' : Hp} {σ σ' σ0 : L2.St} {ρ ρ' ρ0 : En} {x dx b : Addr} {pl rw ru : D} {off : List D}
/-! ### __init__ -/
def spRun (K : PySem.W.Frag) : Sp := fun vs H Q _ => ∃ x dx u1 u2 F pl ru, vs = [.ref x, u1, u2] ∧ H x = some (.ins (He.ga K "Run") dx []) ∧ H dx = some (.own x) ∧ dx ≠ x ∧ F x = none ∧ F dx = none ∧ Ex F H ∧ (∀ a, H a = none → F a = none) ∧ Rep K F u1 pl ∧ Rep K F u2 ru ∧
  ∀ b F' H', H b = none → (∀ a o, a ≠ x → a ≠ dx → H a = some o → H' a = some o) → (∀ a, H' a = none → H a = none) → Ex F' H' → (∀ a, H' a = none → F' a = none) → Le F F' → (∀ a, H a ≠ none → F' a = F a) → Rn K F' [] H' [] x dx b pl [] (.lst []) ru → Q .non H'
theorem spRun_len {vs : List V} {Q : VK} {E : XK} (h : spRun K vs H Q E) : vs.length = 3 := by
  obtain ⟨_, _, _, _, _, _, _, rfl, _⟩ := h
  rfl
abbrev tInitR (K : PySem.W.Frag) : TS := tSeq (SlX.sSl K (tVar 0) (tVar 1) "own_plan") (tSeq (SlX.sSl K (tVar 0) (tVar 2) "own_rule") (tSeq (SlX.sSl K (tVar 0) (tLst tNil) "own_row") (SlX.sSl K (tVar 0) (tLst tNil) "own_refused")))
theorem initR_ok {p0 p1 p2 p3 : Addr} {vs : List V} {Q : VK} {E : XK} {N : List Str} (hN : N.length = 3) (hc : SlX.SCls K (He.ga K "Run")) (h0 : SlX.Slot1 K (He.ga K "Run") "own_plan" p0 0) (h1 : SlX.Slot1 K (He.ga K "Run") "own_refused" p1 1) (h2 : SlX.Slot1 K (He.ga K "Run") "own_row" p2 2) (h3 : SlX.Slot1 K (He.ga K "Run") "own_rule" p3 3)
    (h : spRun K vs H Q E) : tInitR K { nx := fun _ H' => Q .non H', rt := Q } (start N vs) H := by
  obtain ⟨x, dx, u1, u2, F, pl, ru, rfl, hx, hdx, ne, fx, fdx, ex, dom, r1, r2, k⟩ := h
  have nO : ∀ a, ¬ Owned (start N [.ref x, u1, u2]) (startR 0 pl ru) a := fun a ⟨i, d, h, _⟩ => startR_own h
  have st : start N [.ref x, u1, u2] = [some (.ref x), some u1, some u2] := by
    unfold L2.start
    simp [hN]
  have rr : R K F (start N [.ref x, u1, u2]) H (startR 0 pl ru) := by
    refine ⟨ex, dom, ?_, fun i e h => ?_, fun i e h => absurd h startR_own, fun i j e f a h => absurd h startR_own⟩
    · rw [st]; rfl
    · rw [st]
      rcases i with _ | _ | _ | i
      · cases h
      · cases h; exact ⟨u1, rfl, r1⟩
      · cases h; exact ⟨u2, rfl, r2⟩
      · cases h
  have o0 : Ob K "Run" F H x dx F (start N [.ref x, u1, u2]) H (startR 0 pl ru) [] :=
    ⟨rr, .inl ⟨hx, rfl⟩, by rw [hdx]; simp, fx, fdx, nO x, nO dx, ne, by rw [st]; rfl, Le.refl _, fun _ _ _ _ h => h, fun _ h => h, fun _ _ _ _ => rfl, fun a _ _ h => absurd h (nO a)⟩
  refine ob_set (w := .pl 1) (ρ1 := startR 0 pl ru) (ρ' := startR 0 pl ru) (d := pl) o0 hc h0 (dx_var 1) rfl rfl fun y1 F1 H1 o1 x1 le1 => ?_
  refine ob_set (w := .pl 2) (ρ1 := startR 0 pl ru) (ρ' := startR 0 pl ru) (d := ru) o1 hc h3 (dx_var 2) rfl rfl fun y2 F2 H2 o2 x2 le2 => ?_
  refine ob_set (w := .own (.lst [])) (ρ1 := startR 0 pl ru) (ρ' := startR 0 pl ru) (d := .lst []) o2 hc h2 (dx_lst da_nil) rfl rfl fun y3 F3 H3 o3 x3 le3 => ?_
  have o3 : Ob K "Run" F H x dx F3 (start N [.ref x, u1, u2]) H3 (startR 0 pl ru) [some y1, none, some y3, some y2] := o3
  show SlX.sSl K (tVar 0) (tLst tNil) "own_refused" { nx := fun _ H' => Q .non H', rt := Q } _ H3
  unfold SlX.sSl
  refine dx_lst da_nil F3 _ H3 (startR 0 pl ru) (.own (.lst [])) (startR 0 pl ru) _ o3.r rfl fun y F4 H4 r4 s4 q4 => ?_
  obtain ⟨b, rfl, hb, ow, nb⟩ := q4
  have o4 := o3.step r4 s4 rfl
  refine ⟨_, o4.s0, x, _, dx, p1, _, 1, rfl, o4.at_, hc, h1, ?_⟩
  have o5 := o4.slot [some y1, some (.ref b), some y3, some y2]
  obtain ⟨fb, us, eb, qb⟩ := ow
  cases qb
  have bx : b ≠ x := fun z => o3.hx (z ▸ hb)
  have bd : b ≠ dx := fun z => o3.hd (z ▸ hb)
  have em : ∀ a, ¬ Owned ([] : L2.St) ([] : En) a := fun a ⟨i, d, h, _⟩ => by cases h
  refine k b F4 _ (o3.dom b hb) o5.keep o5.dom o5.r.ex o5.r.dom o5.le (fun a h => ?_) ⟨⟨y1, y3, y2, upd_same, x1.mono ((le2.trans le3).trans s4.le), x3.mono s4.le, x2.mono (le3.trans s4.le)⟩, (upd_ne ne).trans upd_same, ⟨[], ((upd_ne bx).trans (upd_ne bd)).trans eb, .nil⟩, o4.fx, o4.fd, fb, em x, em dx, em b, ne, bx, bd⟩
  by_cases z1 : a = x
  · rw [z1, o4.fx, fx]
  · by_cases z2 : a = dx
    · rw [z2, o4.fd, fdx]
    · exact o4.frz a h z1 z2
/-! ### a call -/
theorem R.hide {v : V} (r : R K F σ H ρ) (i : Nat) : R K F (σ.set i (some v)) H (ρ.set i none) ∧ Step σ ρ F H (σ.set i (some v)) (ρ.set i none) F H := by
  have slot : ∀ {j : Nat} {u : V}, j ≠ i → σ[j]? = some (some u) → (σ.set i (some v))[j]? = some (some u) := fun {j u} hj e => by rw [List.getElem?_set_ne (Ne.symm hj)]; exact e
  have slot' : ∀ {j : Nat} {u : V}, j ≠ i → (σ.set i (some v))[j]? = some (some u) → σ[j]? = some (some u) := fun {j u} hj e => by rw [List.getElem?_set_ne (Ne.symm hj)] at e; exact e
  have out : ∀ {j : Nat} {e : Ent}, (ρ.set i none)[j]? = some (some e) → j ≠ i ∧ ρ[j]? = some (some e) := fun {j e} z => by
    rcases getElem?_set_some z with ⟨_, w⟩ | ⟨hj, w⟩
    · cases w
    · exact ⟨hj, w⟩
  refine ⟨⟨r.ex, r.dom, by simpa using r.len, fun j y z => ?_, fun j y z => ?_, fun j k y y' b z z' e e' => ?_⟩, ⟨Le.refl _, fun _ _ z _ => z, fun _ z => z, fun _ _ _ => rfl, fun a ⟨j, d, z, e⟩ => .inl ⟨j, d, (out z).2, slot' (out z).1 e⟩⟩⟩
  · obtain ⟨u, g1, g2⟩ := r.val j y (out z).2
    exact ⟨u, slot (out z).1 g1, g2⟩
  · obtain ⟨u, g1, g2⟩ := r.own j y (out z).2
    exact ⟨u, slot (out z).1 g1, g2⟩
  · exact r.sep j k y y' b (out z).2 (out z').2 (slot' (out z).1 e) (slot' (out z').1 e')
/-- behind a call that changes the object -/
theorem R.callR {off' : List D} {rw' : D} (r : R K F σ H ρ) (n : Rn K F σ H ρ x dx b pl off rw ru) (kp : ∀ a o, a ≠ x → a ≠ dx → a ≠ b → H a = some o → H' a = some o) (ex : Ex F' H') (dom : ∀ a, H' a = none → F' a = none) (le : Le F F') (fr : ∀ a, H a ≠ none → F' a = F a) (n' : Rn K F' [] H' [] x dx b pl off' rw' ru) :
    R K F' σ H' ρ ∧ Rn K F' σ H' ρ x dx b pl off' rw' ru := by
  refine ⟨⟨ex, dom, r.len, fun i d h => ?_, fun i d h => ?_, r.sep⟩, ⟨n'.at_, n'.hd, n'.hb, n'.fx, n'.fd, n'.fb, n.nx, n.nd, n.nb, n.ne1, n.ne2, n.ne3⟩⟩
  · obtain ⟨v, g1, g2⟩ := r.val i d h
    exact ⟨v, g1, g2.mono le⟩
  · obtain ⟨a, g1, g2⟩ := r.own i d h
    refine ⟨a, g1, g2.move le (fr a g2.there) ?_⟩
    obtain ⟨o, eo⟩ := Option.ne_none_iff_exists'.mp g2.there
    rw [eo]
    exact kp a o (fun z => n.nx ⟨i, d, h, by rw [← z]; exact g1⟩) (fun z => n.nd ⟨i, d, h, by rw [← z]; exact g1⟩) (fun z => n.nb ⟨i, d, h, by rw [← z]; exact g1⟩) eo
/-- the same from where none of it was there -/
theorem Step.callR (s : Step σ0 ρ0 F0 H0 σ ρ F H) (hx : H0 x = none) (hd : H0 dx = none) (hb : H0 b = none) (kp : ∀ a o, a ≠ x → a ≠ dx → a ≠ b → H a = some o → H' a = some o) (dm : ∀ a, H' a = none → H a = none) (le : Le F F') (fr : ∀ a, H a ≠ none → F' a = F a) : Step σ0 ρ0 F0 H0 σ ρ F' H' :=
  ⟨s.le.trans le, fun a o h n => kp a o (ne_of_none h hx) (ne_of_none h hd) (ne_of_none h hb) (s.keep a o h n), fun a h => s.dom a (dm a h), fun a h n => (fr a fun z => h (s.dom a z)).trans (s.frz a h n), s.sub⟩
/-! ### sources that hang on shared things alone -/
def ItW (K : PySem.W.Frag) (F : Hp) (J : It) (ds : List D) : Prop := ∀ σ' ρ' F' H', R K F' σ' H' ρ' → Le F F' →
  (∀ i d, ds[i]? = some d → J.go i H' ∧ ∀ x H'', J.yld i H' x H'' → ∃ F'', R K F'' σ' H'' ρ' ∧ Step σ' ρ' F' H' σ' ρ' F'' H'' ∧ Rep K F'' x d) ∧ J.stop ds.length H'
def DW (K : PySem.W.Frag) (wi : TI) (f : Src) : Prop := ∀ (F : Hp) (σ : L2.St) (H : Hp) (ρ : En) (ds : List D) (ρ' : En) (Q : It → Hp → Prop), R K F σ H ρ → f ρ = some (ds, ρ') →
  (∀ J F' H', R K F' σ H' ρ' → Step σ ρ F H σ ρ' F' H' → ItW K F' J ds → Q J H') → wi σ H Q
theorem dw_enumU {ta : TA} {fs : Evs} (h : DA K ta fs) : DW K (iEnumU K ta) (cEnumU fs) := by
  intro F σ H ρ ds ρ' Q r0 e k
  obtain ⟨⟨es, ρ1⟩, e1, e⟩ := Option.bind_eq_some_iff.mp e
  refine h F σ H ρ es ρ1 _ r0 e1 fun vs F1 H1 r1 s1 reps => ?_
  dsimp only at e
  split at e
  · cases e
    cases reps with
    | cons p1 p2 =>
      cases p2
      cases p1 with
      | @lst pa va _ hl hr =>
        refine ⟨pa, va, rfl, .inl ⟨SqL.of (r1.ex _ _ hl), k _ F1 H1 r1 s1 fun σ' ρ' F' H' r le => ?_⟩⟩
        have q1 : SqL K H' pa va := SqL.of (r.ex _ _ (le.l _ _ hl))
        refine ⟨fun i d hd => ?_, ⟨va, q1, by rw [enum_length, hr.length]; exact Nat.le_refl _⟩⟩
        obtain ⟨x, g1, rfl⟩ := enum_get hd
        obtain ⟨v, g3, g4⟩ := hr.get g1
        refine ⟨⟨va, v, q1, g3⟩, ?_⟩
        rintro z H'' ⟨T, x', rfl, hT, rfl, hx⟩
        have e1 := hx va q1
        rw [g3] at e1; cases e1
        rw [Nat.zero_add]
        exact new_pair r hT (.int _) (g4.mono le) rfl
  · cases e
    cases reps with
    | cons p1 p2 =>
      cases p2
      cases p1 with
      | @tup pa va _ hl hp hr =>
        refine ⟨pa, va, rfl, .inr ⟨r1.ex.le.sqT hl, k _ F1 H1 r1 s1 fun σ' ρ' F' H' r le => ?_⟩⟩
        have q1 : SqT K H' pa va := r.ex.le.sqT (le.sqT hl)
        refine ⟨fun i d hd => ?_, ⟨va, q1, by rw [enum_length, hr.length]; exact Nat.le_refl _⟩⟩
        obtain ⟨x, g1, rfl⟩ := enum_get hd
        obtain ⟨v, g3, g4⟩ := hr.get g1
        refine ⟨⟨va, v, q1, g3⟩, ?_⟩
        rintro z H'' ⟨T, x', rfl, hT, rfl, hx⟩
        have e1 := hx va q1
        rw [g3] at e1; cases e1
        rw [Nat.zero_add]
        exact new_pair r hT (.int _) (g4.mono le) rfl
  · cases e
/-! ### x = Run(..); for ..: x.call(..) -/
def runL (m : D → List D → D → D → D → D → Option (List D × D)) (pl ru : D) (g : Gs) (gs : Evs) : List D → En → List D → D → Option (En × List D × D)
  | [], ρ, off, rw => some (ρ, off, rw)
  | d :: ds, ρ, off, rw => (g d ρ).bind fun ρ1 => (gs ρ1).bind fun p => match p.1 with
    | [d1, d2] => (m pl off rw ru d1 d2).bind fun z => runL m pl ru g gs ds p.2 z.1 z.2
    | _ => none
def sRunS (m : D → List D → D → D → D → D → Option (List D × D)) (fi : Nat) (fs : Evs) (src : Src) (g : Gs) (gs : Evs) : Sv := fun ρ => (fs ρ).bind fun p => match p.1 with
  | [pl, ru] => if fi < p.2.length then (src (p.2.set fi none)).bind fun q => (runL m pl ru g gs q.1 q.2 [] (.lst [])).map fun z => .nx (z.1.set fi (some (.v (runD pl z.2.1 z.2.2 ru)))) else none
  | _ => none
abbrev tRunS (K : PySem.W.Frag) (m : D → List D → D → D → D → D → Option (List D × D)) (fi : Nat) (E1 E2 : XK) (ta : TA) (wi : TI) (g : TG) (tb : TA) : TS :=
  tSeq (tAsg (tMake (He.ga K "Run") (spRun K) [] E1 ta) (gName fi)) (tFor wi g (tDrop (SlX.tMethSl (He.ga K "Run") (spR K m) E2 (tVar fi) tb)))
theorem ds_runS {m : D → List D → D → D → D → D → Option (List D × D)} {fi : Nat} {E1 E2 : XK} {ta tb : TA} {wi : TI} {g : TG} {fs gs : Evs} {src : Src} {gg : Gs} {is : List Nat} (hfi : fi ∈ as) (his : ∀ j ∈ is, j ∈ as) (hni : fi ∉ is)
    (ha : DA K ta fs) (hw : DW K wi src) (hg : DG K g gg is) (hb : DA K tb gs) : DS K as (tRunS K m fi E1 E2 ta wi g tb) (sRunS m fi fs src gg gs) := by
  intro F σ H ρ out D r e k
  obtain ⟨⟨ps, ρ1⟩, e1, e⟩ := Option.bind_eq_some_iff.mp e
  dsimp only at e
  split at e
  rotate_left
  · cases e
  rename_i pl ru
  split at e
  rotate_left
  · cases e
  rename_i hl
  obtain ⟨⟨ds, ρ2⟩, e2, e⟩ := Option.bind_eq_some_iff.mp e
  obtain ⟨⟨ρ3, off3, rw3⟩, e3, e⟩ := Option.map_eq_some_iff.mp e
  cases e
  dsimp only at e3
  refine ha F σ H ρ _ ρ1 _ r e1 fun us F1 H1 r1 s1 reps x dx nx nd ne => ?_
  rw [List.append_nil]
  cases reps with
  | cons q1 reps =>
  cases reps with
  | cons q2 reps =>
  cases reps
  rename_i u1 u2
  have exH : Ex H1 (upd (upd H1 dx (.own x)) x (.ins (He.ga K "Run") dx [])) := fun a o h => by
    rw [upd_ne (ne_of_none h nx), upd_ne (ne_of_none h nd)]; exact h
  refine ⟨x, dx, u1, u2, F1, pl, ru, rfl, upd_same, by rw [upd_ne ne, upd_same], ne, r1.dom x nx, r1.dom dx nd, r1.ex.trans exH, fun a h => ?_, q1, q2, fun b F2 H2 hb0 kp dm ex dom le fr n => ⟨rfl, ?_⟩⟩
  · refine r1.dom a ?_
    cases q : H1 a with
    | none => rfl
    | some o => rw [exH a o q] at h; cases h
  have old : ∀ a o, H1 a = some o → a ≠ x ∧ a ≠ dx := fun a o h => ⟨ne_of_none h nx, ne_of_none h nd⟩
  have exN : Ex H1 H2 := fun a o h => kp a o (old a o h).1 (old a o h).2 (exH a o h)
  have frN : ∀ a, H1 a ≠ none → F2 a = F1 a := fun a h => by
    obtain ⟨o, q⟩ := Option.ne_none_iff_exists'.mp h
    exact fr a (by rw [exH a o q]; simp)
  have nb : H1 b = none := by
    cases q : H1 b with
    | none => rfl
    | some o => rw [exH b o q] at hb0; cases hb0
  obtain ⟨r2, s2⟩ := r1.called exN ex dom le frN
  have n2 : Rn K F2 σ H2 ρ1 x dx b pl [] (.lst []) ru := ⟨n.at_, n.hd, n.hb, n.fx, n.fd, n.fb, r1.notO nx, r1.notO nd, r1.notO nb, n.ne1, n.ne2, n.ne3⟩
  obtain ⟨r3, s3⟩ := r2.hide (v := .ref x) fi
  have n3 := n2.step s3
  have sx : (σ.set fi (some (.ref x)))[fi]? = some (some (.ref x)) := set_get (by rw [← r1.len]; exact hl)
  have x0 : H x = none := s1.dom x nx
  have d0 : H dx = none := s1.dom dx nd
  have b0 : H b = none := s1.dom b nb
  refine hw F2 _ H2 _ ds ρ2 _ r3 e2 fun J F4 H4 r4 s4 it => ?_
  have n4 := n3.step s4
  have s04 := ((s1.trans s2).trans s3).trans s4
  refine ⟨fun i j σ' H' => j = ds.length - i ∧ i ≤ ds.length ∧ ∃ ρ' F' off' rw', R K F' σ' H' ρ' ∧ Rn K F' σ' H' ρ' x dx b pl off' rw' ru ∧ σ'[fi]? = some (some (.ref x)) ∧ Step σ ρ F H σ' ρ' F' H' ∧ Le F4 F' ∧ Kp as σ σ' ∧ runL m pl ru gg gs (ds.drop i) ρ' off' rw' = some (ρ3, off3, rw3),
    ⟨_, rfl, Nat.zero_le _, ρ2, F4, [], .lst [], r4, n4, sx, s04, Le.refl _, Kp.set hfi, by simpa using e3⟩, ?_⟩
  rintro i j σ5 H5 ⟨rfl, hi5, ρ5, F5, off5, rw5, r5, n5, sx5, s5, le5, kp5, e5⟩
  have it5 := it σ5 ρ5 F5 H5 r5 le5
  by_cases hlt : i < ds.length
  · have hd : ds[i]? = some ds[i] := by simp [hlt]
    rw [List.drop_eq_getElem_cons hlt] at e5
    obtain ⟨ρ6, e6, e5⟩ := Option.bind_eq_some_iff.mp e5
    obtain ⟨⟨qs, ρ7⟩, e7, e5⟩ := Option.bind_eq_some_iff.mp e5
    dsimp only at e5
    split at e5
    rotate_left
    · cases e5
    rename_i d1 d2
    obtain ⟨⟨off8, rw8⟩, e8, e5⟩ := Option.bind_eq_some_iff.mp e5
    obtain ⟨go, yl⟩ := it5.1 i _ hd
    refine .inr ⟨go, fun σ' H' => ∃ ρ' F' off' rw', R K F' σ' H' ρ' ∧ Rn K F' σ' H' ρ' x dx b pl off' rw' ru ∧ σ'[fi]? = some (some (.ref x)) ∧ Step σ ρ F H σ' ρ' F' H' ∧ Le F4 F' ∧ Kp as σ σ' ∧ runL m pl ru gg gs (ds.drop (i + 1)) ρ' off' rw' = some (ρ3, off3, rw3), fun σ' H' h => ⟨_, by omega, rfl, hlt, h⟩, fun y H6 hy => ?_⟩
    obtain ⟨F6, r6, s6, rep⟩ := yl y H6 hy
    refine hg F6 σ5 H6 ρ5 y _ ρ6 _ r6 rep e6 fun σ7 F7 H7 r7 s7 o7 _ => ?_
    have n7 := (n5.step s6).step s7
    have sx7 : σ7[fi]? = some (some (.ref x)) := (o7 fi hni).trans sx5
    have kp7 : Kp as σ σ7 := kp5.trans fun j hj => o7 j fun z => hj (his j z)
    obtain ⟨v0, v2, v3, ea, _⟩ := n7.at_
    refine ⟨_, sx7, x, dx, _, rfl, .inr ⟨ea, n7.hd⟩, ?_⟩
    refine hb F7 σ7 H7 ρ6 _ ρ7 _ r7 e7 fun ws F8 H8 r8 s8 reps8 => ?_
    have n8 := n7.step s8
    have s08 := ((s5.trans s6).trans s7).trans s8
    cases reps8 with
    | cons t1 reps8 =>
    cases reps8 with
    | cons t2 reps8 =>
    cases reps8
    have em : ∀ a, ¬ Owned ([] : L2.St) ([] : En) a := fun a ⟨i, d, h, _⟩ => by cases h
    refine ⟨x, dx, b, F8, pl, off5, rw5, ru, _, _, d1, d2, off8, rw8, rfl, r8.ex, r8.dom, ⟨n8.at_, n8.hd, n8.hb, n8.fx, n8.fd, n8.fb, em x, em dx, em b, n8.ne1, n8.ne2, n8.ne3⟩, t1, t2, e8, fun F9 H9 kp9 dm9 ex9 dom9 le9 fr9 n9 => ?_⟩
    obtain ⟨r10, n10⟩ := r8.callR n8 kp9 ex9 dom9 le9 fr9 n9
    exact ⟨ρ7, F9, off8, rw8, r10, n10, sx7, s08.callR x0 d0 b0 kp9 dm9 le9 fr9, (((le5.trans s6.le).trans s7.le).trans s8.le).trans le9, kp7, e5⟩
  · have ei : i = ds.length := by omega
    subst ei
    rw [List.drop_length] at e5
    cases e5
    refine .inl ⟨it5.2, ?_⟩
    obtain ⟨G, g1, gex, gsame, _, _, _, grep⟩ := n5.share r5
    refine k σ5 G H5 (g1.put sx5 grep) ⟨s5.le.trans gex.le, s5.keep, s5.dom, fun a h z => ?_, fun a ⟨j, d, h, z⟩ => ?_⟩ kp5
    · rw [gsame a (fun q => h (q ▸ x0)) (fun q => h (q ▸ d0)) (fun q => h (q ▸ b0))]
      exact s5.frz a h z
    · rcases getElem?_set_some h with ⟨_, w⟩ | ⟨_, w⟩
      · cases w
      · exact s5.sub a ⟨j, d, w, z⟩
end
end Bl
namespace Bl
open PySem PySem.Spec PyProof.Rows L2 Evl
/-- two statements taken together, more behind them -/
theorem ds_two {K : PySem.W.Frag} {as : List Nat} {t1 t2 u : TS} {f g : Sv} (h1 : DS K as (tSeq t1 t2) f) (h2 : DS K as u g) : DS K as (tSeq t1 (tSeq t2 u)) (sSeq f g) := by
  intro F σ H ρ out D r e k
  have z := ds_seq h1 h2 F σ H ρ out D r e k
  exact z
def mRun (k : Nat) (g : D → D → Rv) (pl : D) (off : List D) (rw ru d1 d2 : D) : Option (List D × D) := (g pl ru (startR k d1 d2) off rw).map fun z => z.2
theorem mRun_ok {k : Nat} {g : D → D → Rv} (pl : D) (off : List D) (rw ru d1 d2 : D) (z : List D × D) (e : mRun k g pl off rw ru d1 d2 = some z) : ∃ ρ', g pl ru (startR k d1 d2) off rw = some (ρ', z.1, z.2) := by
  obtain ⟨⟨ρ', o, w⟩, e1, e2⟩ := Option.map_eq_some_iff.mp e
  cases e2
  exact ⟨ρ', e1⟩
end Bl
/-! A walk over an object whose __iter__ tells iter(self.f), f a slot with a dict that is locked for ever. -/
namespace Bl
open PySem PySem.Spec PyProof.Rows L2 Evl
/-! ### locked for ever -/
def tFzE (t : TE) : TE := fun σ H Q => t σ H fun v H1 => ∃ d kvs, v = .ref d ∧ H1 d = some (.dK kvs) ∧ ∀ od, Q v (upd H1 d (.frz od (.dK kvs)))
theorem pe_fz {X : Cx} {e : Expr} {t : TE} (h : PE X e t) : PE X e (tFzE t) := by
  refine ⟨fun pins s σ H Q I q => thn (h.run pins s σ H _ I q) fun v s1 ⟨x, H1, I1, r, d, kvs, ex, hd, k⟩ => ?_⟩
  obtain ⟨od, I2⟩ := I1.lock hd True.intro
  exact ⟨x, _, I2, r, k od⟩
/-! ### iter(d) -/
def KIt (d : Addr) (o : Obj) (n : Nat) (it : Addr) : HO := .ext fun h => ∃ es ep, o.data = .dict es ep ∧ h.IsKeyIter it d 0 n ep
def rIterK (n : Nat) : List V → Hp → VK → Prop := fun xs H Q => ∃ d o kvs, xs = [V.ref d] ∧ H d = some (.frz o (.dK kvs)) ∧ ∀ it, H it = none → n ≤ it → Q (.ref it) (upd H it (KIt d o kvs.length it))
theorem kit_ok {P : Program} {w : World} {H : Hp} {h : Heap} {d it : Addr} {o : Obj} {n : Nat} {es : Array DictEntry} {ep : Nat} (hd : o.data = .dict es ep) (e : h.IsKeyIter it d 0 n ep) : ObjOk P w H h it (KIt d o n it) :=
  ⟨⟨es, ep, hd, e⟩, ⟨_, e.choose_spec.1⟩, fun h1 h2 ⟨es, ep, a, ⟨ob, b, c⟩⟩ k => ⟨es, ep, a, ob, k _ b, c⟩⟩
theorem call_iterK {X : Cx} : CallR X (.builtin "iter") (rIterK X.s_0.heap.objs.size) := by
  intro pins s σ H xs us Q I r h
  obtain ⟨d, o, kvs, rfl, hd, q⟩ := h
  obtain ⟨u, rfl, ru⟩ := vals1 r
  cases ru
  obtain ⟨hs, hgd, hx, es, ep, vs, hdt, hsz, kv, hm⟩ := I.frzK hd
  refine Calls.call_function_entry (by decide +kernel) (by decide +kernel) PySem.W.kdk_entry_iter (PySem.W.kdk_args_iter _) ?_
  unfold Builtin.«iter»
  refine wpAny_bind (m := someArgs "iter" 1 2 _) (wpAny_of_eq (a := [Value.ref d]) (by first | rfl | kernel_rfl!) ?_)
  refine wpAny_bind (iter_keys hs hgd hx hdt (wpAny_pure ⟨_, rfl, ?_⟩))
  refine ⟨.ref s.heap.objs.size, _, I.laid (t' := s.toks) (fun b u e => Heap.get?_push_of_some _ e) (Nat.le_refl _) (kit_ok hdt ⟨_, Heap.get?_push_size _ rfl, rfl, ?_⟩), rfl, q _ (I.hok.fresh (Nat.le_refl _)) I.sz⟩
  rw [hsz]; rfl
/-! ### the method -/
/-- what __iter__ promises of an instance of C with the dict in its place i, when it is called at a heap of n objects -/
def spIt (C : Addr) (i n : Nat) : Sp := fun vs H Q _ => ∃ a dx fs d o kvs, vs = [V.ref a] ∧ SlX.Slt H a C dx fs ∧ fs[i]? = some (some (.ref d)) ∧ H d = some (.frz o (.dK kvs)) ∧ ∀ it, H it = none → n ≤ it → Q (.ref it) (upd H it (KIt d o kvs.length it))
/-- a promise that hangs on the state of the call -/
def FnS (P : Program) (w : World) (K : PySem.W.Frag) (mg : Str → Option Value) (base : Heap) (k : Nat) (f : Addr) (sp : Nat → Sp) : Prop :=
  ∀ (A : Around) (outer : List Env) (s : Shared) (H : Hp) (u : Value) (v : V) (Q : VK) (E : XK), Room k A → Env0 P w K mg base A outer s H → RelV v u → sp s.heap.objs.size [v] H Q E → codeAny (model P w) A (.call (.ref f) ⟨[u], []⟩) (CR CX0 outer P w H s Q E) s
theorem fnS_of {P : Program} {w : World} {K : PySem.W.Frag} {mg : Str → Option Value} {base : Heap} {x qual p1 : Str} {params : Arguments} {body : List Stmt} {scope : Scope} {f : Addr} {fd : FuncData} {N : List Str} {k : Nat} {sp : Nat → Sp}
    (D : FunD K x qual params body scope [] [] f fd) (S : FnScope N [p1] scope) (bi : Binds K fd [p1] [])
    (hb : ∀ (cdv : Value) (A : Around) (outer : List Env) (s : Shared) (H : Hp) (v : V) (Q : VK) (E : XK), Room k (A.deeper (envOfC qual scope s.heap.objs.size f cdv)) → sp s.heap.objs.size [v] H Q E →
      ∃ t, PSs (cxOf CX0 P w K mg base N qual scope f cdv A outer s H E) body t ∧ t { nx := fun _ H' => Q .non H', rt := Q } (start N [v]) H) : FnS P w K mg base (k + 1) f sp := by
  obtain ⟨oc, od, dV, kV, doc, pm, an, cdv, ct, osl, rfl, look, code, _, _⟩ := D.ex
  intro A outer s H u v Q E room env ruv promise
  have kin : K.In s.heap := env.mod.kin.keeps fun b o z => (env.bs b o z).1
  have kinds : ∀ z ∈ [(p1, u)], scope.names.lookup z.1 = some .local ∨ (scope.names.lookup z.1 = some .cell ∧ ((cellsFrom (s.heap.objs.size + 1) scope.names []).lookup z.1).isSome = true) := fun z hz => by
    obtain rfl : z = (p1, u) := by simpa using hz
    exact (S.par p1 (by simp)).imp id fun q => ⟨q, PySem.W.cellsFrom_some _ _ _ (.inl q)⟩
  have go := bi s [u] kin rfl
  refine codeAny_call_function room.depth (kin _ _ look) rfl S.co S.gen rfl (PySem.W.codeRec_of kin code)
    (go _ _ _ _ (wpAny_newFunctionEnv_cells S.kind kinds fun env1 he s1 inn => ?_))
  subst he
  refine ⟨(env.mod.nolimit.keeps fun b o z => (env.bs b o z).1).keeps inn.toInCall.keep, codeAny_func ?_⟩
  obtain ⟨t, walk, post⟩ := hb cdv A outer s H v Q E (room.deeper _) promise
  have J0 := inv_start (CX := CX0) (E := E) (cd := cdv) S room.hd env rfl (.cons ruv .nil) inn
  refine wpAny_mono (walk.run [] s1 (start N [v]) H _ J0 post) (fun fl s2 told => ?_) fun _ _ z => z
  cases fl with
  | ret y => obtain ⟨v', _, H', J, ry, q⟩ := told; exact ⟨v', H', J.os, J.bare, J.base, J.hok, ry, q⟩
  | next => obtain ⟨_, H', J, q⟩ := told; exact ⟨.non, H', J.os, J.bare, J.base, J.hok, rfl, q⟩
  | brk => obtain ⟨_, _, _, q⟩ := told; cases q
  | cont => obtain ⟨_, _, _, q⟩ := told; cases q
/-! ### the walk -/
def iOwn (C : Addr) (i : Nat) (te : TE) : TI := fun σ H R => te σ H fun x H1 => ∃ a dx fs d o kvs, x = .ref a ∧ SlX.Slt H1 a C dx fs ∧ fs[i]? = some (some (.ref d)) ∧ H1 d = some (.frz o (.dK kvs)) ∧ R (Itk d o kvs) H1
theorem pi_own {X : Cx} {tg e : Expr} {te : TE} {k i : Nat} {C g : Addr} (hm : Meth X.K C "__iter__" g) (Fn : FnS X.prog X.w X.K X.mg X.base k g (spIt C i)) (hr : Room k X.A) (he : PE X e te) : PI X tg e (iOwn C i te) := by
  refine ⟨fun pins s σ H R I h => thn (he.run pins s σ H _ I h) fun u s1 ⟨x, H1, I1, rx, a, dx, fs, d, o, kvs, ex, hsl, hf, hd, q⟩ => ?_⟩
  subst ex
  obtain rfl : u = Value.ref a := rx
  obtain ⟨m, fr⟩ := I1.fr
  obtain ⟨sl, od, _, J, _⟩ := SlX.slt_inst I1 hsl
  refine PySem.W.owit_iter fr I1.ok.mod.kin J hm.at_ hm.fn (wpAny_call ?_)
  refine codeAny_mono (Fn X.A X.stack s1 H1 (.ref a) (.ref a) (fun v H' => ∃ it, v = .ref it ∧ H1 it = none ∧ s1.heap.objs.size ≤ it ∧ H' = upd H1 it (KIt d o kvs.length it)) (fun _ _ _ => True) hr I1.env0 rfl
    ⟨a, dx, fs, d, o, kvs, rfl, hsl, hf, hd, fun it hit hn => ⟨it, rfl, hit, hn, rfl⟩⟩) fun r s' hq => ?_
  cases r with
  | error e => exact hq.elim
  | ok fl =>
    cases fl with
    | next => exact False.elim hq
    | brk => exact False.elim hq
    | cont => exact False.elim hq
    | ret u =>
      obtain ⟨v, H', os, bare, un, hok, r, it, rfl, hit, hn, rfl⟩ := hq
      obtain ⟨v', H'', I2, _, rfl, rfl⟩ := I1.after (Q := fun v' H'' => v' = V.ref it ∧ H'' = upd H1 it (KIt d o kvs.length it)) ⟨_, _, os, bare, un, hok, r, rfl, rfl⟩
      obtain rfl : u = Value.ref it := r
      have hk : upd H1 it (KIt d o kvs.length it) it = some (KIt d o kvs.length it) := upd_same
      obtain ⟨⟨es, ep, hdt, key⟩, _⟩ := I2.hok it _ hk
      have hn := Nat.le_trans I1.sz hn
      have I3 := ItX.inv_drop I2 hk
      have fp := ItX.inv_fp I2 hk hn
      rw [ItX.dropH_upd hit] at I3 fp
      refine wpAny_specialOf (name := Str.ofString "__next__") key.typeIs F.slot_dict_keyiterator_next.lookup ?_
      refine ⟨it, [it], fun i h => h.IsKeyIter it d i kvs.length ep, Itk d o kvs, H1, rfl, I3, turn_keys it hdt, key, fun b hb => ?_, q⟩
      have e : b = it := by simpa using hb
      rw [e]; exact fp
end Bl
/-! A walk over an object (BlI) as data. -/
namespace Bl
open PySem PySem.Spec PyProof.Rows L2 Evl
/-- the keys of the locked dict in the place i of an object of class c -/
def keysIn (c : Str) (i : Nat) : D → Option (List D)
  | .obj c' fs => if c' = c then (match fs[i]? with
    | some (some (.dicF ks)) => some (ks.map fun kv => dOf kv.1)
    | _ => none) else none
  | _ => none
def cOwn (c : Str) (i : Nat) (f : Ev) : Src := fun ρ => (f ρ).bind fun p => (rel p.2 p.1).bind fun q => (keysIn c i q.1).map fun ds => (ds, q.2)
theorem keysIn_some {c : Str} {i : Nat} {d : D} {ds : List D} (h : keysIn c i d = some ds) : ∃ fs ks, d = .obj c fs ∧ fs[i]? = some (some (.dicF ks)) ∧ ds = ks.map fun kv => dOf kv.1 := by
  cases d with
  | obj c' fs =>
    have h : (if c' = c then (match fs[i]? with
      | some (some (.dicF ks)) => some (ks.map fun kv => dOf kv.1)
      | _ => none) else none) = some ds := h
    split at h
    · rename_i hc
      split at h
      · rename_i ks hf
        cases h
        exact ⟨fs, ks, by rw [hc], hf, rfl⟩
      · cases h
    · cases h
  | _ => cases h
section
variable {K : PySem.W.Frag}
theorem it_keys {σ : L2.St} {ρ : En} {F H : Hp} {d : Addr} {o : Obj} {vs : List (Key × V)} {ds : List (Key × D)} (h : RepKs K F vs ds) (hd : F d = some (.frz o (.dK vs))) : ItD K σ ρ F H (Itk d o vs) (ds.map fun kv => dOf kv.1) := by
  intro σ' ρ' F' H' r s
  have q := r.ex _ _ (s.le.f _ _ _ hd)
  have hr := keys_rep h
  have hl := hr.length
  rw [List.length_map] at hl
  refine ⟨fun i e he => ?_, q, Nat.le_of_eq hl⟩
  obtain ⟨v, h1, h2⟩ := hr.get he
  have hi : i < vs.length := by simpa using (List.getElem?_eq_some_iff.mp h1).1
  refine ⟨⟨q, hi⟩, fun x H'' hy => ?_⟩
  obtain ⟨rfl, k, u, hk, rfl⟩ := hy
  rw [List.getElem?_map, hk] at h1
  cases h1
  exact ⟨F', r, Step.refl _ _ _ _, h2.mono s.le⟩
theorem di_own {te : TE} {f : Ev} {c : Str} {i : Nat} (h : DX K te f) : DI K (iOwn (He.ga K c) i te) (cOwn c i f) [] := by
  intro F σ H ρ ds ρ' Q r0 e k
  obtain ⟨⟨w1, ρ1⟩, e1, e⟩ := Option.bind_eq_some_iff.mp e
  obtain ⟨⟨d, ρ2⟩, e2, e⟩ := Option.bind_eq_some_iff.mp e
  obtain ⟨ks, e3, e⟩ := Option.map_eq_some_iff.mp e
  cases e
  refine h F σ H ρ w1 ρ1 _ r0 e1 fun v F1 H1 r1 s1 o1 => ?_
  obtain ⟨F2, r2, s2, rep⟩ := r1.rel s1 o1 e2
  obtain ⟨fs, kk, rfl, hf, rfl⟩ := keysIn_some e3
  obtain ⟨a, dx, vs, rfl, g1, g2⟩ := rb_obj (H := H1) (show RB K F2 H1 v (.obj c fs) from rep)
  obtain ⟨u, hu, ru⟩ := os_get g2 hf
  cases ru with
  | @dicF b o us _ hb hr => exact ⟨a, dx, vs, b, o, us, rfl, r2.ex.le.s _ _ _ _ g1, hu, r2.ex _ _ hb, k _ F2 H1 r2 s2 (it_keys hr hb)⟩
/-! ### a new dict is locked for ever -/
theorem R.showO {F H : Hp} {σ : L2.St} {ρ : En} {a : Addr} {u : HO} (r : R K F σ H ρ) (hu : H a = some u) (hf : F a = none) (n : ¬ Owned σ ρ a) : R K (upd F a u) σ H ρ := by
  have ex : Ex F (upd F a u) := Ex.new hf
  refine ⟨fun b x h => ?_, fun b hb => ?_, r.len, fun i e q => ?_, fun i e q => ?_, r.sep⟩
  · by_cases hb : b = a
    · subst hb; rw [upd_same] at h; rw [hu]; exact h
    · rw [upd_ne hb] at h; exact r.ex b x h
  · rw [upd_ne (fun z => by rw [z, hu] at hb; cases hb)]; exact r.dom b hb
  · obtain ⟨x, h1, h2⟩ := r.val i e q
    exact ⟨x, h1, h2.mono ex.le⟩
  · obtain ⟨b, h1, h2⟩ := r.own i e q
    exact ⟨b, h1, h2.move ex.le (upd_ne fun z => n ⟨i, e, q, by rw [← z]; exact h1⟩) rfl⟩
def sFz (f : Ev) : Ev := fun ρ => (f ρ).bind fun p => match p.1 with
  | .own (.dic ks) => some (.val (.dicF ks), p.2)
  | _ => none
theorem dx_fz {te : TE} {f : Ev} (h : DX K te f) : DX K (tFzE te) (sFz f) := by
  intro F σ H ρ w ρ' Q r0 e k
  obtain ⟨⟨w1, ρ1⟩, e1, e⟩ := Option.bind_eq_some_iff.mp e
  obtain ⟨ks, rfl, e⟩ : ∃ ks, w1 = .own (.dic ks) ∧ (some (Opd.val (.dicF ks), ρ1) : Option (Opd × En)) = some (w, ρ') := by
    cases w1 with
    | own d => cases d <;> first | exact ⟨_, rfl, e⟩ | cases e
    | _ => cases e
  cases e
  refine h F σ H ρ _ ρ1 _ r0 e1 fun v F1 H1 r1 s1 o1 => ?_
  obtain ⟨a, rfl, h0, ⟨fa, kvs, ha, rep⟩, nO⟩ := o1
  refine ⟨a, kvs, rfl, ha, fun od => ?_⟩
  have r2 := (r1.touch (o := .frz od (.dK kvs)) fa nO).showO upd_same fa nO
  have ex : Ex F1 (upd F1 a (.frz od (.dK kvs))) := Ex.new fa
  have ne : ∀ {b : Addr}, H b ≠ none → b ≠ a := fun hb z => hb (z ▸ h0)
  refine k _ _ _ r2 ⟨s1.le.trans ex.le, fun b o hb nb => ?_, fun b hb => ?_, fun b hb nb => ?_, s1.sub⟩ (.dicF upd_same (RepKs.mono ex.le rep))
  · rw [upd_ne (ne (by rw [hb]; simp))]; exact s1.keep b o hb nb
  · refine s1.dom b ?_
    by_cases z : b = a
    · subst z; rw [upd_same] at hb; cases hb
    · rw [upd_ne z] at hb; exact hb
  · rw [upd_ne (ne hb)]; exact s1.frz b hb nb
theorem iter_ok {C : Addr} {i n : Nat} {f : Str} {p : Addr} {N : List Str} {v : V} {H : Hp} {Q : VK} {E : XK} {nx : L2.St → Hp → Prop} (hN : 0 < N.length) (hc : SlX.SCls K C) (hs : SlX.Slot1 K C f p i) (h : spIt C i n [v] H Q E) :
    tRet (tCB (rIterK n) (tCons (SlX.tSl K (tVar 0) f) tNil)) { nx := nx, rt := Q } (start N [v]) H := by
  obtain ⟨a, dx, fs, d, o, kvs, ev, h1, h2, h3, h4⟩ := h
  cases ev
  have s0 : (start N [V.ref a])[0]? = some (some (.ref a)) := by
    unfold L2.start
    simp
  exact ⟨_, s0, a, C, dx, p, fs, i, .ref d, rfl, h1, hc, hs, h2, d, o, kvs, rfl, h3, h4⟩
theorem dx_len {ta : TE} {f1 : Ev} (ha : DX K ta f1) : DX K (tCB (fun xs H Q => ∃ x n, xs = [x] ∧ LenV K x H n ∧ Q (.int n) H) (tCons ta tNil)) (sUn lenD f1) := dx_cb1 (r := fun xs H Q => ∃ x n, xs = [x] ∧ LenV K x H n ∧ Q (.int n) H) ud_len ha
end
end Bl
/-! Own things that are lent to a piece of a def: behind it all that it made is let go, and they are own as before. -/
namespace Bl
open PySem PySem.Spec PyProof.Rows L2 Evl
def lend1 (js ad : List Nat) (n : Nat) (x y : Option Ent) : Option Ent := if n ∈ ad then none else if n ∈ js then x else bor2 x y
def lendL (js ad : List Nat) : Nat → En → En → En
  | _, [], _ => []
  | n, x :: ρ0, ρ => lend1 js ad n x (ρ.headD none) :: lendL js ad (n + 1) ρ0 ρ.tail
def sLend (js ad : List Nat) (f g : Sv) : Sv := fun ρ => (f (giveL js ρ)).bind fun o => match o with
  | .nx ρ1 => if ρ1.length = ρ.length then g (lendL js ad 0 ρ ρ1) else none
  | o => some o
theorem lendL_len {js ad : List Nat} : ∀ (ρ0 ρ : En) (n : Nat), (lendL js ad n ρ0 ρ).length = ρ0.length
  | [], _, _ => rfl
  | x :: ρ0, ρ, n => by simp [lendL, lendL_len ρ0]
theorem lendL_get {js ad : List Nat} : ∀ (ρ0 ρ : En) (n j : Nat) (y : Option Ent), (lendL js ad n ρ0 ρ)[j]? = some y → ∃ x, ρ0[j]? = some x ∧ y = lend1 js ad (n + j) x ((ρ[j]?).getD none)
  | [], _, _, _, _, h => by simp [lendL] at h
  | x :: ρ0, ρ, n, 0, y, h => by
    refine ⟨x, rfl, ?_⟩
    cases h
    cases ρ <;> rfl
  | x :: ρ0, ρ, n, j + 1, y, h => by
    obtain ⟨z, h1, h2⟩ := lendL_get ρ0 ρ.tail (n + 1) j y (by simpa [lendL] using h)
    refine ⟨z, by simpa using h1, ?_⟩
    rw [h2, show n + 1 + j = n + (j + 1) by omega]
    cases ρ <;> rfl
theorem giveL_v {d : D} {j : Nat} : ∀ {js : List Nat} {ρ : En}, ρ[j]? = some (some (.v d)) → (giveL js ρ)[j]? = some (some (.v d))
  | [], _, h => h
  | i :: js, ρ, h => by
    unfold giveL
    refine giveL_v (js := js) ?_
    split
    · rename_i e q
      by_cases hi : i = j
      · subst hi; rw [h] at q; cases q
      · rw [List.getElem?_set_ne hi]; exact h
    · exact h
theorem giveL_o {d : D} {j : Nat} : ∀ {js : List Nat} {ρ : En}, j ∈ js → ρ[j]? = some (some (.o d)) → (giveL js ρ)[j]? = some (some (.v d))
  | i :: js, ρ, hj, h => by
    unfold giveL
    have hlt := (List.getElem?_eq_some_iff.mp h).1
    by_cases hi : i = j
    · subst hi
      rw [h]
      exact giveL_v (List.getElem?_set_self hlt)
    · refine giveL_o (js := js) ((List.mem_cons.mp hj).resolve_left (Ne.symm hi)) ?_
      split
      · rw [List.getElem?_set_ne hi]; exact h
      · exact h
section
variable {K : PySem.W.Frag} {as ad : List Nat}
theorem lend_v {js : List Nat} {n : Nat} {x y : Option Ent} {d : D} (h : lend1 js ad n x y = some (.v d)) : n ∉ ad ∧ x = some (.v d) := by
  unfold lend1 at h
  split at h
  · cases h
  · rename_i hn
    refine ⟨hn, ?_⟩
    split at h
    · exact h
    · cases x with
      | none => cases h
      | some x =>
        cases x with
        | v z => exact h
        | o z =>
          cases y with
          | none => cases h
          | some y => unfold bor2 at h; dsimp only at h; split at h <;> cases h
theorem lend_o {js : List Nat} {n : Nat} {x y : Option Ent} {d : D} (h : lend1 js ad n x y = some (.o d)) : n ∉ ad ∧ ((n ∈ js ∧ x = some (.o d)) ∨ ∃ d0, x = some (.o d0) ∧ flatL d = true ∧ (y = some (.o d) ∨ y = some (.v d))) := by
  unfold lend1 at h
  split at h
  · cases h
  · rename_i hn
    refine ⟨hn, ?_⟩
    split at h
    · rename_i hj; exact .inl ⟨hj, h⟩
    · cases x with
      | none => cases h
      | some x =>
        cases x with
        | v z => cases h
        | o z =>
          cases y with
          | none => cases h
          | some y =>
            unfold bor2 at h
            dsimp only at h
            split at h
            · rename_i hq
              cases h
              refine .inr ⟨z, rfl, hq, ?_⟩
              cases y with
              | v t => exact .inr rfl
              | o t => exact .inl rfl
            · cases h
theorem ds_lend (js : List Nat) {t u : TS} {f g : Sv} (hd : ∀ j ∈ ad, j ∈ as) (h : DS K ad t f) (h2 : DS K as u g) : DS K as (tSeq t u) (sLend js ad f g) := by
  intro F0 σ0 H0 ρ0 out E0 r0 e kk
  obtain ⟨Fg, rg, sg⟩ := r0.giveL js
  obtain ⟨o, e1, e⟩ := Option.bind_eq_some_iff.mp e
  have back : Fin K ad σ0 (Bl.giveL js ρ0) Fg H0 E0 out := (kk.back sg (Kp.refl _ _)).wide hd
  refine h Fg σ0 H0 _ o _ rg e1 ?_
  cases o with
  | bk ρ1 => cases e; exact back
  | ct ρ1 => cases e; exact back
  | rt w ρ1 => cases e; exact back
  | nx ρ1 =>
    intro σ F H r1 s1 k1
    dsimp only at e
    split at e
    rotate_left
    · cases e
    rename_i hlen
    have ms := sg.trans s1
    have vb : ∀ (j : Nat) (d : D), (lendL js ad 0 ρ0 ρ1)[j]? = some (some (.v d)) → ρ0[j]? = some (some (.v d)) ∧ j ∉ ad := fun j d q => by
      obtain ⟨x, hx, hy⟩ := lendL_get _ _ _ _ _ q
      rw [Nat.zero_add] at hy
      obtain ⟨n, rfl⟩ := lend_v hy.symm
      exact ⟨hx, n⟩
    have ob : ∀ (j : Nat) (d : D), (lendL js ad 0 ρ0 ρ1)[j]? = some (some (.o d)) → j ∉ ad ∧ ((j ∈ js ∧ ρ0[j]? = some (some (.o d))) ∨ ∃ d0, ρ0[j]? = some (some (.o d0)) ∧ flatL d = true ∧ (ρ1[j]? = some (some (.o d)) ∨ ρ1[j]? = some (some (.v d)))) := fun j d q => by
      obtain ⟨x, hx, hy⟩ := lendL_get _ _ _ _ _ q
      rw [Nat.zero_add] at hy
      obtain ⟨n, c⟩ := lend_o hy.symm
      refine ⟨n, ?_⟩
      rcases c with ⟨hj, rfl⟩ | ⟨d0, rfl, hfl, c⟩
      · exact .inl ⟨hj, hx⟩
      · refine .inr ⟨d0, hx, hfl, ?_⟩
        cases hz : ρ1[j]? with
        | none => rw [hz] at c; rcases c with c | c <;> cases c
        | some z => rw [hz] at c; exact c.imp (congrArg some) (congrArg some)
    have own0 : ∀ (j : Nat) (d : D), (lendL js ad 0 ρ0 ρ1)[j]? = some (some (.o d)) → j ∉ ad ∧ ∃ d0, ρ0[j]? = some (some (.o d0)) := fun j d q => by
      obtain ⟨n, c⟩ := ob j d q
      rcases c with ⟨_, c⟩ | ⟨d0, c, _⟩
      · exact ⟨n, d, c⟩
      · exact ⟨n, d0, c⟩
    have ownb : ∀ a, Owned σ (lendL js ad 0 ρ0 ρ1) a → Owned σ0 ρ0 a := fun a ⟨j, d, q, z⟩ => by
      obtain ⟨n, d0, q0⟩ := own0 j d q
      exact ⟨j, d0, q0, (k1 j n).symm.trans z⟩
    have rr : R K F0 σ H (lendL js ad 0 ρ0 ρ1) := by
      refine ⟨fun a u ha => ?_, fun a ha => r0.dom a (ms.dom a ha), by rw [lendL_len, ← hlen]; exact r1.len, fun j d q => ?_, fun j d q => ?_, fun j l d e' a q q' z z' => ?_⟩
      · refine ms.keep a u (r0.ex a u ha) fun ⟨j, d, q, z⟩ => ?_
        obtain ⟨x, h1, h3⟩ := r0.own j d q
        have e3 : some (some (V.ref a)) = some (some (.ref x)) := z.symm.trans h1
        cases e3
        rw [h3.free] at ha
        cases ha
      · obtain ⟨q0, n⟩ := vb j d q
        obtain ⟨v, h1, h3⟩ := r0.val j d q0
        exact ⟨v, (k1 j n).trans h1, h3⟩
      · obtain ⟨n, c⟩ := ob j d q
        rcases c with ⟨hj, q0⟩ | ⟨d0, q0, hfl, q1⟩
        · obtain ⟨x, h1, h3⟩ := r0.own j d q0
          refine ⟨x, (k1 j n).trans h1, ?_⟩
          obtain ⟨v, g1, g2⟩ := rg.val j d (giveL_o hj q0)
          have e3 : some (some (V.ref x)) = some (some v) := h1.symm.trans g1
          cases e3
          cases d with
          | lst ds =>
            cases g2 with
            | lst hv _ =>
              obtain ⟨fx, vs0, hv0, rp⟩ := h3
              have e4 := (rg.ex _ _ hv).symm.trans hv0
              cases e4
              exact ⟨fx, _, r1.ex _ _ (s1.le.l _ _ hv), rp⟩
          | dic ds =>
            cases g2 with
            | dic hv _ =>
              obtain ⟨fx, vs0, hv0, rp⟩ := h3
              have e4 := (rg.ex _ _ hv).symm.trans hv0
              cases e4
              exact ⟨fx, _, r1.ex _ _ (s1.le.d _ _ hv), rp⟩
          | _ => exact h3.elim
        · obtain ⟨x, h1, h3⟩ := r0.own j d0 q0
          have hx : σ[j]? = some (some (.ref x)) := (k1 j n).trans h1
          refine ⟨x, hx, ?_⟩
          cases d with
          | lst ds =>
            refine ⟨h3.free, ?_⟩
            rcases q1 with q1 | q1
            · obtain ⟨y, y1, y2⟩ := r1.own j _ q1
              have e3 : some (some (V.ref x)) = some (some (.ref y)) := hx.symm.trans y1
              cases e3
              obtain ⟨_, us, hv, ru⟩ := y2
              exact ⟨us, hv, reps_flatB hfl ru⟩
            · obtain ⟨y, y1, y2⟩ := r1.val j _ q1
              have e3 : some (some (V.ref x)) = some (some y) := hx.symm.trans y1
              cases e3
              cases y2 with
              | lst hv ru => exact ⟨_, r1.ex _ _ hv, reps_flatB hfl ru⟩
          | _ => cases hfl
      · obtain ⟨n, d0, q0⟩ := own0 j d q
        obtain ⟨n', e0, q0'⟩ := own0 l e' q'
        exact r0.sep j l d0 e0 a q0 q0' ((k1 j n).symm.trans z) ((k1 l n').symm.trans z')
    have ss : Step σ0 ρ0 F0 H0 σ (lendL js ad 0 ρ0 ρ1) F0 H := ⟨Le.refl _, ms.keep, ms.dom, fun _ _ _ => rfl, fun a z => .inl (ownb a z)⟩
    exact h2 F0 σ H _ out E0 rr e (kk.back ss (k1.wide hd))
theorem ds_lend2 (js : List Nat) {t1 t2 u : TS} {f g : Sv} (hd : ∀ j ∈ ad, j ∈ as) (h : DS K ad (tSeq t1 t2) f) (h2 : DS K as u g) : DS K as (tSeq t1 (tSeq t2 u)) (sLend js ad f g) := ds_lend (t := (tSeq t1 t2)) js hd h h2
theorem ds_lend3 (js : List Nat) {t1 t2 t3 u : TS} {f g : Sv} (hd : ∀ j ∈ ad, j ∈ as) (h : DS K ad (tSeq t1 (tSeq t2 t3)) f) (h2 : DS K as u g) : DS K as (tSeq t1 (tSeq t2 (tSeq t3 u))) (sLend js ad f g) := ds_lend (t := (tSeq t1 (tSeq t2 t3))) js hd h h2
theorem ds_lend4 (js : List Nat) {t1 t2 t3 t4 u : TS} {f g : Sv} (hd : ∀ j ∈ ad, j ∈ as) (h : DS K ad (tSeq t1 (tSeq t2 (tSeq t3 t4))) f) (h2 : DS K as u g) : DS K as (tSeq t1 (tSeq t2 (tSeq t3 (tSeq t4 u)))) (sLend js ad f g) := ds_lend (t := (tSeq t1 (tSeq t2 (tSeq t3 t4)))) js hd h h2
theorem ds_lend5 (js : List Nat) {t1 t2 t3 t4 t5 u : TS} {f g : Sv} (hd : ∀ j ∈ ad, j ∈ as) (h : DS K ad (tSeq t1 (tSeq t2 (tSeq t3 (tSeq t4 t5)))) f) (h2 : DS K as u g) : DS K as (tSeq t1 (tSeq t2 (tSeq t3 (tSeq t4 (tSeq t5 u))))) (sLend js ad f g) := ds_lend (t := (tSeq t1 (tSeq t2 (tSeq t3 (tSeq t4 t5))))) js hd h h2
theorem ds_lend6 (js : List Nat) {t1 t2 t3 t4 t5 t6 u : TS} {f g : Sv} (hd : ∀ j ∈ ad, j ∈ as) (h : DS K ad (tSeq t1 (tSeq t2 (tSeq t3 (tSeq t4 (tSeq t5 t6))))) f) (h2 : DS K as u g) : DS K as (tSeq t1 (tSeq t2 (tSeq t3 (tSeq t4 (tSeq t5 (tSeq t6 u)))))) (sLend js ad f g) := ds_lend (t := (tSeq t1 (tSeq t2 (tSeq t3 (tSeq t4 (tSeq t5 t6)))))) js hd h h2
theorem ds_lend7 (js : List Nat) {t1 t2 t3 t4 t5 t6 t7 u : TS} {f g : Sv} (hd : ∀ j ∈ ad, j ∈ as) (h : DS K ad (tSeq t1 (tSeq t2 (tSeq t3 (tSeq t4 (tSeq t5 (tSeq t6 t7)))))) f) (h2 : DS K as u g) : DS K as (tSeq t1 (tSeq t2 (tSeq t3 (tSeq t4 (tSeq t5 (tSeq t6 (tSeq t7 u))))))) (sLend js ad f g) := ds_lend (t := (tSeq t1 (tSeq t2 (tSeq t3 (tSeq t4 (tSeq t5 (tSeq t6 t7))))))) js hd h h2
theorem ds_lend8 (js : List Nat) {t1 t2 t3 t4 t5 t6 t7 t8 u : TS} {f g : Sv} (hd : ∀ j ∈ ad, j ∈ as) (h : DS K ad (tSeq t1 (tSeq t2 (tSeq t3 (tSeq t4 (tSeq t5 (tSeq t6 (tSeq t7 t8))))))) f) (h2 : DS K as u g) : DS K as (tSeq t1 (tSeq t2 (tSeq t3 (tSeq t4 (tSeq t5 (tSeq t6 (tSeq t7 (tSeq t8 u)))))))) (sLend js ad f g) := ds_lend (t := (tSeq t1 (tSeq t2 (tSeq t3 (tSeq t4 (tSeq t5 (tSeq t6 (tSeq t7 t8)))))))) js hd h h2
theorem ds_lend9 (js : List Nat) {t1 t2 t3 t4 t5 t6 t7 t8 t9 u : TS} {f g : Sv} (hd : ∀ j ∈ ad, j ∈ as) (h : DS K ad (tSeq t1 (tSeq t2 (tSeq t3 (tSeq t4 (tSeq t5 (tSeq t6 (tSeq t7 (tSeq t8 t9)))))))) f) (h2 : DS K as u g) : DS K as (tSeq t1 (tSeq t2 (tSeq t3 (tSeq t4 (tSeq t5 (tSeq t6 (tSeq t7 (tSeq t8 (tSeq t9 u))))))))) (sLend js ad f g) := ds_lend (t := (tSeq t1 (tSeq t2 (tSeq t3 (tSeq t4 (tSeq t5 (tSeq t6 (tSeq t7 (tSeq t8 t9))))))))) js hd h h2
end
end Bl
/-! Data that are compared: t < u. -/
namespace Bl
open PySem PySem.Spec PyProof.Rows L2 Evl
def rLtDt (K : PySem.W.Frag) : R2 := fun x y H Q => ∃ d e, Dp K H x d ∧ Dp K H y e ∧ PySem.W.alike d e = true ∧ d ≠ .none ∧ min d.depth e.depth ≤ 60 ∧ Q (.bl (PySem.W.dataLt d e)) H
theorem op_ltDt {X : Cx} (hu : X.A.units + 64 < cLine) : OpR X (compareOp .Lt) (rLtDt X.K) := by
  intro pins s σ H x y v u Q I rx ry h
  obtain ⟨d, e, hd, he, al, nn, dep, q⟩ := h
  obtain ⟨as, r1⟩ := Dp.reads I d x v hd rx
  obtain ⟨bs, r2⟩ := Dp.reads I e y u he ry
  exact PySem.W.lt_data r1 r2 al nn (by omega) ⟨.bl _, H, I, rfl, q⟩
def isNonP : PyData → Bool
  | .none => true
  | _ => false
def ltDt (a b : D) : Option Opd := match toPy a, toPy b with
  | some p, some q => if PySem.W.alike p q && !isNonP p && decide (min p.depth q.depth ≤ 60) then some (.val (.bl (PySem.W.dataLt p q))) else none
  | _, _ => none
theorem od_ltDt {K : PySem.W.Frag} : OpD K (rLtDt K) ltDt := by
  intro F σ H ρ x y dx dy w Q r0 hx hy e k
  unfold ltDt at e
  split at e
  · rename_i p q e1 e2
    split at e
    · rename_i hs
      cases e
      simp only [Bool.and_eq_true, decide_eq_true_eq] at hs
      refine ⟨p, q, hx.dp r0.ex e1, hy.dp r0.ex e2, hs.1.1, fun z => ?_, hs.2, k.flat r0 (.bl _)⟩
      rw [z] at hs
      cases hs.1.2
    · cases e
  · cases e
end Bl
/-! The head's facts with slots of classes. -/
namespace Bl
open PySem PySem.Spec PyProof.Rows L2 Evl
def sclsB (K : PySem.W.Frag) (c : Str) : Bool := PySem.W.plainGet K (He.ga K c) Str.empty && (PySem.W.isClsIn K (He.ga K c) && (PySem.W.plainOver K (He.ga K c) && He.eqO (PySem.W.findIn K (.ref (He.ga K c)) "__setattr__") (some (some (.builtin "object.__setattr__")))))
def slotB (K : PySem.W.Frag) (q : Str × Str × Nat) : Bool := sclsB K q.1 && (He.eqO (PySem.W.findIn K (.ref (He.ga K q.1)) q.2.1) (some (some (.ref (He.ma K (He.ga K q.1) q.2.1)))) &&
  (He.eqO (PySem.W.specialIn K (.ref (He.ma K (He.ga K q.1) q.2.1)) "__get__") (some (some (.builtin "member_descriptor.__get__"))) && (decide (PySem.W.takesIn K (.ref (He.ma K (He.ga K q.1) q.2.1)) = some true) &&
  (decide (PySem.W.typeIn K (.ref (He.ma K (He.ga K q.1) q.2.1)) = some (.type "member_descriptor")) && (decide (PySem.W.slotIn K (He.ma K (He.ga K q.1) q.2.1) (He.ga K q.1) = some q.2.2) && decide (q.2.2 < 1000))))))
theorem scls_ok {K : PySem.W.Frag} {c : Str} {f : Str} {i : Nat} (h : slotB K (c, f, i) = true) : SlX.SCls K (He.ga K c) := by
  obtain ⟨h, _⟩ := He.ba h
  obtain ⟨h1, h⟩ := He.ba h
  obtain ⟨h2, h⟩ := He.ba h
  obtain ⟨h3, h4⟩ := He.ba h
  exact ⟨h1, h2, h3, He.eqO_ok h4⟩
theorem slot_ok {K : PySem.W.Frag} {c : Str} {f : Str} {i : Nat} (h : slotB K (c, f, i) = true) : SlX.Slot1 K (He.ga K c) f (He.ma K (He.ga K c) f) i := by
  obtain ⟨_, h⟩ := He.ba h
  obtain ⟨h1, h⟩ := He.ba h
  obtain ⟨h2, h⟩ := He.ba h
  obtain ⟨h3, h⟩ := He.ba h
  obtain ⟨h4, h⟩ := He.ba h
  obtain ⟨h5, h6⟩ := He.ba h
  exact ⟨He.eqO_ok h1, He.eqO_ok h2, of_decide_eq_true h3, of_decide_eq_true h4, of_decide_eq_true h5, of_decide_eq_true h6⟩
def SaysS (fa : List He.Fa) (fn : List He.DefD) (sl : List (Str × Str × Nat)) (K : PySem.W.Frag) : Prop := He.SaysD fa fn K ∧ sl.all (slotB K) = true
theorem SaysS.sl {fa : List He.Fa} {fn : List He.DefD} {sl : List (Str × Str × Nat)} {K : PySem.W.Frag} (d : SaysS fa fn sl K) (i : Nat) {q : Str × Str × Nat} (h : sl[i]? = some q) : slotB K q = true := List.all_eq_true.mp d.2 q (List.mem_of_getElem? h)
def obsSG (n : Nat) (fa : List He.Fa) (fn : List He.DefD) (sl : List (Str × Str × Nat)) (g : Addr → Option Obj) : He.AlD × Bool := (He.obsDG n fa fn g, sl.all (slotB (He.frG g (He.asD g n))))
def hookS (n : Nat) (fa : List He.Fa) (fn : List He.DefD) (sl : List (Str × Str × Nat)) : PySem.W.Hook where
  α := He.AlD × Bool
  obs := fun s => obsSG n fa fn sl s.heap.get?
  val := fun _ => (He.valD fn, true)
  says := fun _ h => ∃ K : PySem.W.Frag, K.In h ∧ SaysS fa fn sl K
  of := fun _ _ e => ⟨_, He.frG_in, (Prod.mk.inj e).1, (Prod.mk.inj e).2⟩
  keeps := fun _ _ _ ⟨K, hK, c⟩ k => ⟨K, PySem.W.Frag.In.keeps hK k, c⟩
theorem obsSG_eq {n : Nat} {fa : List He.Fa} {fn : List He.DefD} {sl : List (Str × Str × Nat)} {g : Addr → Option Obj} {s : Shared} (h : ∀ a, g a = s.heap.get? a) : obsSG n fa fn sl g = (hookS n fa fn sl).obs s := by
  have e : g = s.heap.get? := funext h
  rw [e]; rfl
/-- the script, handed to the law -/
theorem law_promise {K : PySem.W.Frag} {m : List D → Option Opd} {H : Hp} {a : Addr} {ns : List Int} {E : XK} {Q : VK} (hS : SqL K H a (ns.map V.int)) (e : m [.scr ns] = some (.val (.bl true))) (k : ∀ H', Q (.bl true) H') : spP K 1 m [.ref a] H Q E :=
  ⟨H, [.scr ns], _, fun _ _ h => h, fun _ h => h, .cons (.scr hS) .nil, rfl, e, fun v F' H' _ _ _ _ _ rp => by
    have rp : Rep K F' v (.bl true) := rp
    cases rp; exact k H'⟩
end Bl
namespace Bl
open PySem PySem.Spec PyProof.Rows L2 Evl
def top (i : Nat) : Stmt := PySem.Challenge.pw_belowlast_k85_whole_calls_and_tools.main.body.getD i (.Pass ⟨0, 0, 0, 0⟩)
def inCls (i j : Nat) : Stmt := match top i with
  | .ClassDef _ _ _ body _ _ _ _ _ _ _ => body.getD j (.Pass ⟨0, 0, 0, 0⟩)
  | _ => .Pass ⟨0, 0, 0, 0⟩
def d__wall : He.DefD := ⟨("_wall", none), "_wall", "_wall", defArgs (top 0), defBody (top 0), defScope (top 0), [], []⟩
def d_NoCommit___init__ : He.DefD := ⟨("NoCommit", some "__init__"), "__init__", "NoCommit.__init__", defArgs (inCls 2 0), defBody (inCls 2 0), defScope (inCls 2 0), [], []⟩
def d_tupled : He.DefD := ⟨("tupled", none), "tupled", "tupled", defArgs (top 4), defBody (top 4), defScope (top 4), [], []⟩
def d_is_less : He.DefD := ⟨("is_less", none), "is_less", "is_less", defArgs (top 5), defBody (top 5), defScope (top 5), [], []⟩
def d_Plan___init__ : He.DefD := ⟨("Plan", some "__init__"), "__init__", "Plan.__init__", defArgs (inCls 7 1), defBody (inCls 7 1), defScope (inCls 7 1), [], []⟩
def d_Plan___iter__ : He.DefD := ⟨("Plan", some "__iter__"), "__iter__", "Plan.__iter__", defArgs (inCls 7 2), defBody (inCls 7 2), defScope (inCls 7 2), [], []⟩
def d_Plan_commits : He.DefD := ⟨("Plan", some "commits"), "commits", "Plan.commits", defArgs (inCls 7 3), defBody (inCls 7 3), defScope (inCls 7 3), [], []⟩
def d_Plan_parents : He.DefD := ⟨("Plan", some "parents"), "parents", "Plan.parents", defArgs (inCls 7 4), defBody (inCls 7 4), defScope (inCls 7 4), [], []⟩
def d_Plan_fresh : He.DefD := ⟨("Plan", some "fresh"), "fresh", "Plan.fresh", defArgs (inCls 7 5), defBody (inCls 7 5), defScope (inCls 7 5), [], []⟩
def d_Plan_worth : He.DefD := ⟨("Plan", some "worth"), "worth", "Plan.worth", defArgs (inCls 7 6), defBody (inCls 7 6), defScope (inCls 7 6), [], []⟩
def d_Plan_knows : He.DefD := ⟨("Plan", some "knows"), "knows", "Plan.knows", defArgs (inCls 7 7), defBody (inCls 7 7), defScope (inCls 7 7), [], []⟩
def d_Plan_is_behind : He.DefD := ⟨("Plan", some "is_behind"), "is_behind", "Plan.is_behind", defArgs (inCls 7 8), defBody (inCls 7 8), defScope (inCls 7 8), [], []⟩
def d_Plan_touch : He.DefD := ⟨("Plan", some "touch"), "touch", "Plan.touch", defArgs (inCls 7 9), defBody (inCls 7 9), defScope (inCls 7 9), [], []⟩
def d_Plan_is_lower : He.DefD := ⟨("Plan", some "is_lower"), "is_lower", "Plan.is_lower", defArgs (inCls 7 10), defBody (inCls 7 10), defScope (inCls 7 10), [], []⟩
def d_Plan_raised : He.DefD := ⟨("Plan", some "raised"), "raised", "Plan.raised", defArgs (inCls 7 11), defBody (inCls 7 11), defScope (inCls 7 11), [], []⟩
def d_Plan_known : He.DefD := ⟨("Plan", some "known"), "known", "Plan.known", defArgs (inCls 7 12), defBody (inCls 7 12), defScope (inCls 7 12), [], []⟩
def d_Plan_look_commits : He.DefD := ⟨("Plan", some "look_commits"), "look_commits", "Plan.look_commits", defArgs (inCls 7 13), defBody (inCls 7 13), defScope (inCls 7 13), [], []⟩
def d_Plan_look_steps : He.DefD := ⟨("Plan", some "look_steps"), "look_steps", "Plan.look_steps", defArgs (inCls 7 14), defBody (inCls 7 14), defScope (inCls 7 14), [], []⟩
def d_known : He.DefD := ⟨("known", none), "known", "known", defArgs (top 8), defBody (top 8), defScope (top 8), [], []⟩
def d_goes_along : He.DefD := ⟨("goes_along", none), "goes_along", "goes_along", defArgs (top 9), defBody (top 9), defScope (top 9), [], []⟩
def d_Run___init__ : He.DefD := ⟨("Run", some "__init__"), "__init__", "Run.__init__", defArgs (inCls 13 1), defBody (inCls 13 1), defScope (inCls 13 1), [], []⟩
def d_Run_is_above : He.DefD := ⟨("Run", some "is_above"), "is_above", "Run.is_above", defArgs (inCls 13 2), defBody (inCls 13 2), defScope (inCls 13 2), [], []⟩
def d_Run_call : He.DefD := ⟨("Run", some "call"), "call", "Run.call", defArgs (inCls 13 3), defBody (inCls 13 3), defScope (inCls 13 3), [], []⟩
def d_Run_row : He.DefD := ⟨("Run", some "row"), "row", "Run.row", defArgs (inCls 13 4), defBody (inCls 13 4), defScope (inCls 13 4), [], []⟩
def d_Run_refused : He.DefD := ⟨("Run", some "refused"), "refused", "Run.refused", defArgs (inCls 13 5), defBody (inCls 13 5), defScope (inCls 13 5), [], []⟩
def d_run_of : He.DefD := ⟨("run_of", none), "run_of", "run_of", defArgs (top 14), defBody (top 14), defScope (top 14), [], []⟩
def d_row : He.DefD := ⟨("row", none), "row", "row", defArgs (top 15), defBody (top 15), defScope (top 15), [], []⟩
def d_refused : He.DefD := ⟨("refused", none), "refused", "refused", defArgs (top 16), defBody (top 16), defScope (top 16), [], []⟩
def d_not_less : He.DefD := ⟨("not_less", none), "not_less", "not_less", defArgs (top 17), defBody (top 17), defScope (top 17), [], []⟩
def d_missed : He.DefD := ⟨("missed", none), "missed", "missed", defArgs (top 18), defBody (top 18), defScope (top 18), [], []⟩
def d_is_clean : He.DefD := ⟨("is_clean", none), "is_clean", "is_clean", defArgs (top 19), defBody (top 19), defScope (top 19), [], []⟩
def d_pairs_of : He.DefD := ⟨("pairs_of", none), "pairs_of", "pairs_of", defArgs (top 21), defBody (top 21), defScope (top 21), [], []⟩
def d_can_miss : He.DefD := ⟨("can_miss", none), "can_miss", "can_miss", defArgs (top 22), defBody (top 22), defScope (top 22), [], []⟩
def d__law_box : He.DefD := ⟨("_law_box", none), "_law_box", "_law_box", defArgs (top 24), defBody (top 24), defScope (top 24), [], []⟩
def d__law_take : He.DefD := ⟨("_law_take", none), "_law_take", "_law_take", defArgs (top 25), defBody (top 25), defScope (top 25), [], []⟩
def d__law_cells : He.DefD := ⟨("_law_cells", none), "_law_cells", "_law_cells", defArgs (top 26), defBody (top 26), defScope (top 26), [], []⟩
def d__law_of : He.DefD := ⟨("_law_of", none), "_law_of", "_law_of", defArgs (top 27), defBody (top 27), defScope (top 27), [], []⟩
def d__law_same : He.DefD := ⟨("_law_same", none), "_law_same", "_law_same", defArgs (top 28), defBody (top 28), defScope (top 28), [], []⟩
def d__law_sized : He.DefD := ⟨("_law_sized", none), "_law_sized", "_law_sized", defArgs (top 29), defBody (top 29), defScope (top 29), [], []⟩
def d__law_steps : He.DefD := ⟨("_law_steps", none), "_law_steps", "_law_steps", defArgs (top 30), defBody (top 30), defScope (top 30), [], []⟩
def d__law_touching : He.DefD := ⟨("_law_touching", none), "_law_touching", "_law_touching", defArgs (top 31), defBody (top 31), defScope (top 31), [], []⟩
def d__law_above : He.DefD := ⟨("_law_above", none), "_law_above", "_law_above", defArgs (top 32), defBody (top 32), defScope (top 32), [], []⟩
def d__law_commits : He.DefD := ⟨("_law_commits", none), "_law_commits", "_law_commits", defArgs (top 33), defBody (top 33), defScope (top 33), [], []⟩
def d__law_plan : He.DefD := ⟨("_law_plan", none), "_law_plan", "_law_plan", defArgs (top 34), defBody (top 34), defScope (top 34), [], []⟩
def d__law_facts : He.DefD := ⟨("_law_facts", none), "_law_facts", "_law_facts", defArgs (top 35), defBody (top 35), defScope (top 35), [], []⟩
def d__law_calls : He.DefD := ⟨("_law_calls", none), "_law_calls", "_law_calls", defArgs (top 36), defBody (top 36), defScope (top 36), [], []⟩
def d__law_every : He.DefD := ⟨("_law_every", none), "_law_every", "_law_every", defArgs (top 37), defBody (top 37), defScope (top 37), [], []⟩
def d__law_begins : He.DefD := ⟨("_law_begins", none), "_law_begins", "_law_begins", defArgs (top 38), defBody (top 38), defScope (top 38), [], []⟩
def d__law_tools_right : He.DefD := ⟨("_law_tools_right", none), "_law_tools_right", "_law_tools_right", defArgs (top 39), defBody (top 39), defScope (top 39), [], []⟩
def d__law_right : He.DefD := ⟨("_law_right", none), "_law_right", "_law_right", defArgs (top 40), defBody (top 40), defScope (top 40), [], []⟩
def d_law : He.DefD := ⟨("law", none), "law", "law", defArgs (top 41), defBody (top 41), defScope (top 41), [], []⟩
def fn : List He.DefD := [d__wall, d_tupled, d_is_less, d_Plan___init__, d_Plan___iter__, d_Plan_commits, d_Plan_parents, d_Plan_fresh, d_Plan_worth, d_Plan_knows, d_Plan_is_behind, d_Plan_touch, d_Plan_is_lower, d_Plan_raised, d_Plan_known, d_Plan_look_commits, d_Plan_look_steps, d_known, d_goes_along, d_Run___init__, d_Run_is_above, d_Run_call, d_Run_row, d_Run_refused, d_run_of, d_row, d_refused, d_not_less, d_missed, d_is_clean, d_pairs_of, d_can_miss, d__law_box, d__law_take, d__law_cells, d__law_of, d__law_same, d__law_sized, d__law_steps, d__law_touching, d__law_above, d__law_commits, d__law_plan, d__law_facts, d__law_calls, d__law_every, d__law_begins, d__law_tools_right, d__law_right, d_law]
def fa : List He.Fa := [.glo "_wall", .glo "tupled", .glo "is_less", .glo "known", .glo "goes_along", .glo "run_of", .glo "row", .glo "refused", .glo "not_less", .glo "missed", .glo "is_clean", .glo "pairs_of", .glo "can_miss", .glo "_law_box", .glo "_law_take", .glo "_law_cells", .glo "_law_of", .glo "_law_same", .glo "_law_sized", .glo "_law_steps", .glo "_law_touching", .glo "_law_above", .glo "_law_commits", .glo "_law_plan", .glo "_law_facts", .glo "_law_calls", .glo "_law_every", .glo "_law_begins", .glo "_law_tools_right", .glo "_law_right", .glo "law", .free "iter", .free "len", .free "isinstance", .free "tuple", .free "list", .free "all", .free "sorted", .free "set", .free "dict", .free "zip", .free "enumerate", .free "range", .free "int", .free "abs", .free "str", .free "bool", .str "LAST" "last", .str "STRICT" "strict", .glo "Plan", .mkr "Plan", .meth "Plan" "__iter__", .meth "Plan" "commits", .meth "Plan" "parents", .meth "Plan" "fresh", .meth "Plan" "worth", .meth "Plan" "knows", .meth "Plan" "is_behind", .meth "Plan" "touch", .meth "Plan" "is_lower", .meth "Plan" "raised", .meth "Plan" "known", .meth "Plan" "look_commits", .meth "Plan" "look_steps", .glo "Run", .mkr "Run", .meth "Run" "is_above", .meth "Run" "call", .meth "Run" "row", .meth "Run" "refused"]
structure Tx (K : PySem.W.Frag) (mg : Str → Option Value) : Prop where
  says : He.SaysD fa fn K
  f__wall : mg "_wall" = some (.ref (He.fAd K d__wall.at_))
  f_tupled : mg "tupled" = some (.ref (He.fAd K d_tupled.at_))
  f_is_less : mg "is_less" = some (.ref (He.fAd K d_is_less.at_))
  f_known : mg "known" = some (.ref (He.fAd K d_known.at_))
  f_goes_along : mg "goes_along" = some (.ref (He.fAd K d_goes_along.at_))
  f_run_of : mg "run_of" = some (.ref (He.fAd K d_run_of.at_))
  f_row : mg "row" = some (.ref (He.fAd K d_row.at_))
  f_refused : mg "refused" = some (.ref (He.fAd K d_refused.at_))
  f_not_less : mg "not_less" = some (.ref (He.fAd K d_not_less.at_))
  f_missed : mg "missed" = some (.ref (He.fAd K d_missed.at_))
  f_is_clean : mg "is_clean" = some (.ref (He.fAd K d_is_clean.at_))
  f_pairs_of : mg "pairs_of" = some (.ref (He.fAd K d_pairs_of.at_))
  f_can_miss : mg "can_miss" = some (.ref (He.fAd K d_can_miss.at_))
  f__law_box : mg "_law_box" = some (.ref (He.fAd K d__law_box.at_))
  f__law_take : mg "_law_take" = some (.ref (He.fAd K d__law_take.at_))
  f__law_cells : mg "_law_cells" = some (.ref (He.fAd K d__law_cells.at_))
  f__law_of : mg "_law_of" = some (.ref (He.fAd K d__law_of.at_))
  f__law_same : mg "_law_same" = some (.ref (He.fAd K d__law_same.at_))
  f__law_sized : mg "_law_sized" = some (.ref (He.fAd K d__law_sized.at_))
  f__law_steps : mg "_law_steps" = some (.ref (He.fAd K d__law_steps.at_))
  f__law_touching : mg "_law_touching" = some (.ref (He.fAd K d__law_touching.at_))
  f__law_above : mg "_law_above" = some (.ref (He.fAd K d__law_above.at_))
  f__law_commits : mg "_law_commits" = some (.ref (He.fAd K d__law_commits.at_))
  f__law_plan : mg "_law_plan" = some (.ref (He.fAd K d__law_plan.at_))
  f__law_facts : mg "_law_facts" = some (.ref (He.fAd K d__law_facts.at_))
  f__law_calls : mg "_law_calls" = some (.ref (He.fAd K d__law_calls.at_))
  f__law_every : mg "_law_every" = some (.ref (He.fAd K d__law_every.at_))
  f__law_begins : mg "_law_begins" = some (.ref (He.fAd K d__law_begins.at_))
  f__law_tools_right : mg "_law_tools_right" = some (.ref (He.fAd K d__law_tools_right.at_))
  f__law_right : mg "_law_right" = some (.ref (He.fAd K d__law_right.at_))
  f_law : mg "law" = some (.ref (He.fAd K d_law.at_))
  g_iter : mg "iter" = none
  g_len : mg "len" = none
  g_isinstance : mg "isinstance" = none
  g_tuple : mg "tuple" = none
  g_list : mg "list" = none
  g_all : mg "all" = none
  g_sorted : mg "sorted" = none
  g_set : mg "set" = none
  g_dict : mg "dict" = none
  g_zip : mg "zip" = none
  g_enumerate : mg "enumerate" = none
  g_range : mg "range" = none
  g_int : mg "int" = none
  g_abs : mg "abs" = none
  g_str : mg "str" = none
  g_bool : mg "bool" = none
  c_LAST : ∃ u, mg "LAST" = some u ∧ RelV (.str "last") u
  c_STRICT : ∃ u, mg "STRICT" = some u ∧ RelV (.str "strict") u
  f_Plan : mg "Plan" = some (.ref (He.ga K "Plan"))
  mk_Plan : Mk K (He.ga K "Plan") (He.fAd K d_Plan___init__.at_)
  m_Plan___iter__ : Meth K (He.ga K "Plan") "__iter__" (He.fAd K d_Plan___iter__.at_)
  m_Plan_commits : Meth K (He.ga K "Plan") "commits" (He.fAd K d_Plan_commits.at_)
  m_Plan_parents : Meth K (He.ga K "Plan") "parents" (He.fAd K d_Plan_parents.at_)
  m_Plan_fresh : Meth K (He.ga K "Plan") "fresh" (He.fAd K d_Plan_fresh.at_)
  m_Plan_worth : Meth K (He.ga K "Plan") "worth" (He.fAd K d_Plan_worth.at_)
  m_Plan_knows : Meth K (He.ga K "Plan") "knows" (He.fAd K d_Plan_knows.at_)
  m_Plan_is_behind : Meth K (He.ga K "Plan") "is_behind" (He.fAd K d_Plan_is_behind.at_)
  m_Plan_touch : Meth K (He.ga K "Plan") "touch" (He.fAd K d_Plan_touch.at_)
  m_Plan_is_lower : Meth K (He.ga K "Plan") "is_lower" (He.fAd K d_Plan_is_lower.at_)
  m_Plan_raised : Meth K (He.ga K "Plan") "raised" (He.fAd K d_Plan_raised.at_)
  m_Plan_known : Meth K (He.ga K "Plan") "known" (He.fAd K d_Plan_known.at_)
  m_Plan_look_commits : Meth K (He.ga K "Plan") "look_commits" (He.fAd K d_Plan_look_commits.at_)
  m_Plan_look_steps : Meth K (He.ga K "Plan") "look_steps" (He.fAd K d_Plan_look_steps.at_)
  k_Plan : SlX.SCls K (He.ga K "Plan")
  s_Plan_own_ahead : SlX.Slot1 K (He.ga K "Plan") "own_ahead" (He.ma K (He.ga K "Plan") "own_ahead") 0
  s_Plan_own_fresh : SlX.Slot1 K (He.ga K "Plan") "own_fresh" (He.ma K (He.ga K "Plan") "own_fresh") 1
  s_Plan_own_known : SlX.Slot1 K (He.ga K "Plan") "own_known" (He.ma K (He.ga K "Plan") "own_known") 2
  s_Plan_own_numbers : SlX.Slot1 K (He.ga K "Plan") "own_numbers" (He.ma K (He.ga K "Plan") "own_numbers") 3
  s_Plan_own_parents : SlX.Slot1 K (He.ga K "Plan") "own_parents" (He.ma K (He.ga K "Plan") "own_parents") 4
  s_Plan_own_touching : SlX.Slot1 K (He.ga K "Plan") "own_touching" (He.ma K (He.ga K "Plan") "own_touching") 5
  f_Run : mg "Run" = some (.ref (He.ga K "Run"))
  mk_Run : Mk K (He.ga K "Run") (He.fAd K d_Run___init__.at_)
  m_Run_is_above : Meth K (He.ga K "Run") "is_above" (He.fAd K d_Run_is_above.at_)
  m_Run_call : Meth K (He.ga K "Run") "call" (He.fAd K d_Run_call.at_)
  m_Run_row : Meth K (He.ga K "Run") "row" (He.fAd K d_Run_row.at_)
  m_Run_refused : Meth K (He.ga K "Run") "refused" (He.fAd K d_Run_refused.at_)
  k_Run : SlX.SCls K (He.ga K "Run")
  s_Run_own_plan : SlX.Slot1 K (He.ga K "Run") "own_plan" (He.ma K (He.ga K "Run") "own_plan") 0
  s_Run_own_refused : SlX.Slot1 K (He.ga K "Run") "own_refused" (He.ma K (He.ga K "Run") "own_refused") 1
  s_Run_own_row : SlX.Slot1 K (He.ga K "Run") "own_row" (He.ma K (He.ga K "Run") "own_row") 2
  s_Run_own_rule : SlX.Slot1 K (He.ga K "Run") "own_rule" (He.ma K (He.ga K "Run") "own_rule") 3
end Bl
namespace Bl
open PySem PySem.Spec PyProof.Rows L2 Evl
section
variable {P : Program} {w : World} {K : PySem.W.Frag} {mg : Str → Option Value} {base : Heap}
/-! tupled -/
def n_tupled : List Str := ["thing", "part"]
theorem sc_tupled : FnScope n_tupled ["thing"] d_tupled.scope := ⟨rfl, rfl, rfl, by decide +kernel, rfl, by decide +kernel, by decide +kernel⟩
def b_tupled (mm : List D → Option Opd) : Sv :=
    (sRet (sIf (sB (sUn (isiO ["list", "tuple"]) (sVar 0))) (sUn tupleD (sLc (cRel (sVar 0)) [] [1] (hName 1) sYes (sCall mm (sCons (sVar 1) sNil)))) (sVar 0)))
def m_tupled : Nat → List D → Option Opd
  | 0 => fun _ => none
  | j + 1 => runP 2 (b_tupled (m_tupled j))
theorem c_tupled (T : Tx K mg) : ∀ j, C8.Cal P w K mg base (j + 1) "tupled" (spP K 1 (m_tupled j)) [] := by
  obtain ⟨fd, F⟩ := T.says.def_ 1 (d := d_tupled) rfl
  have kp := F.kp
  have bi : Binds K fd ["thing"] [] := F.bindsN fun _ _ _ _ _ _ us hl => match us, hl with | [_], _ => rfl
  intro j
  induction j with
  | zero => exact ⟨_, fd, ["thing"], [], F.ok (k := 0) sc_tupled (fun vs H Q E h => spP_len h) (fun cdv A outer s H vs Q E hr h => (spP_none h).elim), T.f_tupled, kp, bi, .nil⟩
  | succ j cal =>
    refine ⟨_, fd, ["thing"], [], F.ok (k := j + 1) sc_tupled (fun vs H Q E h => spP_len h) (fun cdv A outer s H vs Q E hr h => ?_), T.f_tupled, kp, bi, .nil⟩
    have nd := sc_tupled.nd
    exact ⟨_, PSs.nox
      (pss_one (ps_ret (pe_ifExp (pt_val (pe_callB call_isiT rfl T.g_isinstance (by rfl) (pa_cons (pv 0) (pa_cons (pe_tup (pa_cons (pe_bltn (v := .ty "list") (u := .type "list") rfl T.g_list (by rfl) rfl) (pa_cons (pe_bltn (v := .ty "tuple") (u := .type "tuple") rfl T.g_tuple (by rfl) rfl) pa_nil))) pa_nil)))) (pe_callTy cr_tupF rfl T.g_tuple (by rfl) (pa_cons (pe_lc (own := [("part", 1)]) rfl nd (pi_seq (pv 0)) (blkOk_by (N := n_tupled) (sc := d_tupled.scope) (by decide +kernel)) (fun _ _ _ _ _ => (pg_name (i := 1) nd rfl (Or.inl rfl))) (fun _ _ _ _ _ => pts_nil) (fun _ _ _ _ _ => (C8.pe_c cal hr (Nat.le_refl _) rfl (pa_cons (pv 1) pa_nil)))) pa_nil)) (pv 0)))),
      fn_P (N := n_tupled) (as := []) (f := b_tupled (m_tupled j))
      (ds_ret (dx_if (dt_B (dx_isiT ["list", "tuple"] (by decide) (dx_var 0))) (dx_cb1 ud_tuple (dx_lc (ms := []) (vs := [1]) (di_rel (dx_var 0)) (dg_name 1) (by decide) dt_yes (dx_call (da_cons (dx_var 1) da_nil) (ln_cons ln_nil)))) (dx_var 0))) h⟩
end
end Bl
/-! Plan.__init__ -/
namespace Bl
open PySem PySem.Spec PyProof.Rows L2 Evl
def h3 : Gs := hTup 3 (hCons (hName 5) (hCons (hName 6) (hCons (hName 7) hNil)))
def i1 : Sv := sAsg (sCall (m_tupled 6) (sCons (sVar 1) sNil)) (hTup 3 (hCons (hName 2) (hCons (hName 3) (hCons (hName 4) hNil))))
def i2 : Ev := sFz (sUn dictT (sVar 2))
def i4 : Ev := sDc (cRel (sVar 4)) [] [5, 6, 7] h3 sYes (sVar 5) (sVar 6)
def i5 : Ev := sDc (cRel (sVar 4)) [] [5, 6, 7] h3 sYes (sVar 5) (sVar 7)
def ib : Sv := sPar 8 9 (sDc (cRel (sVar 7)) [] [11] (hName 11) sYes (sVar 11) (sC (.bl true))) (sDc (cRel (sVar 6)) [] [10] (hName 10) sYes (sVar 10) (sC (.bl true)))
def vR (f : Ev) (ρ : En) : Option (D × En) := (f ρ).bind fun p => rel p.2 p.1
/-- slot i's own dict takes in what kn has at p -/
def upK (i : Nat) (kn : List (Key × D)) (p : D) (ρ : En) : Option En := (ownD ρ i).bind fun ds => (keyD p).bind fun key => match getK kn key with
  | some (.dic more) => if ds.length + more.length ≤ 1000000 then some (ρ.set i (some (.o (.dic (mergeD ds more))))) else none
  | _ => none
def inner (kn an : List (Key × D)) : List D → En → Option En
  | [], ρ => some ρ
  | p :: ps, ρ => (upK 8 kn p (ρ.set 10 (some (.v p)))).bind fun ρ1 => (upK 9 an p ρ1).bind fun ρ2 => inner kn an ps ρ2
def ownV (ρ : En) (i : Nat) : Option D := match ρ[i]? with
  | some (some (.v d)) => some d
  | _ => none
def tupV (ρ : En) (i : Nat) : Option (List D) := match ρ[i]? with
  | some (some (.v (.tup ds))) => some ds
  | _ => none
def turn (d : D) (ρ : En) (kn an : List (Key × D)) : Option (En × List (Key × D) × List (Key × D)) := (h3 d ρ).bind fun ρ1 => match ib ρ1 with
  | some (.nx ρ2) => if ρ2.length = 12 then (tupV ρ2 6).bind fun ps => (inner kn an ps ρ2).bind fun ρ3 => (relP ρ3 8).bind fun p => (relP p.2 9).bind fun q => (ownV q.2 5).bind fun n => (keyD n).bind fun key =>
    (if kn.length < 1000000 ∧ an.length < 1000000 then some (q.2, putD kn key p.1, putD an key q.1) else none) else none
  | _ => none
def rounds : List D → En → List (Key × D) → List (Key × D) → Option (List (Key × D) × List (Key × D))
  | [], _, kn, an => some (kn, an)
  | d :: ds, ρ, kn, an => (turn d ρ kn an).bind fun z => rounds ds z.1 z.2.1 z.2.2
def startP (d : D) : En := none :: some (.v d) :: List.replicate 10 none
def m_Plan : List D → Option D
  | [d] => (match i1 (startP d) with
    | some (.nx ρ1) => (vR i2 ρ1).bind fun p2 => (vR (sVar 3) p2.2).bind fun p3 => (vR i4 p3.2).bind fun p4 => (vR i5 p4.2).bind fun p5 => (tupV p5.2 4).bind fun cs => (rounds cs p5.2 [] []).map fun z =>
        .obj "Plan" [some (.dic z.2), some p5.1, some (.dic z.1), some p2.1, some p4.1, some p3.1]
    | _ => none)
  | _ => none
section
variable {K : PySem.W.Frag} {F0 H0 F F' H H' : Hp} {x dx ka aa ps : Addr} {σ σ' : L2.St} {ρ ρ' : En} {VS : List (Option V)} {kn an : List (Key × V)} {dkn dan : List (Key × D)}
theorem tupV_some {i : Nat} {ds : List D} (h : tupV ρ i = some ds) : ρ[i]? = some (some (.v (.tup ds))) := by
  unfold tupV at h
  split at h
  · rename_i q; cases h; exact q
  · cases h
theorem ownV_some {i : Nat} {d : D} (h : ownV ρ i = some d) : ρ[i]? = some (some (.v d)) := by
  unfold ownV at h
  split at h
  · rename_i q; cases h; exact q
  · cases h
def tUp (K : PySem.W.Frag) (i : Nat) (f : Str) : TS := tDrop (tBM K "dict" rUpd (tVar i) (tCons (tDGet (SlX.tSl K (tVar 0) f) (tVar 10)) tNil))
theorem up_ok {i j : Nat} {f : Str} {E : Ends} {p : D} (o : Ob K "Plan" F0 H0 x dx F σ H ρ VS) (d : Sd K F σ H ρ ka kn dkn) (hv : VS[j]? = some (some (.ref ka))) (hc : SlX.SCls K (He.ga K "Plan")) (hs : SlX.Slot1 K (He.ga K "Plan") f ps j)
    (h10 : ρ[10]? = some (some (.v p))) (e : upK i dkn p ρ = some ρ') (k : ∀ H', R K F σ H' ρ' → Step σ ρ F H σ ρ' F H' → E.nx σ H') : tUp K i f E σ H := by
  obtain ⟨ds, e0, e⟩ := Option.bind_eq_some_iff.mp e
  obtain ⟨key, e1, e⟩ := Option.bind_eq_some_iff.mp e
  split at e
  · rename_i more eg
    split at e
    · rename_i hz
      cases e
      have q := ownD_some e0
      obtain ⟨a, ha, ow⟩ := o.r.own i _ q
      obtain ⟨fa, vs0, hv0, hr⟩ := ow
      obtain ⟨v10, s10, rep10⟩ := o.r.val 10 p h10
      have hk := key_rb (H := F) (RB.of (Le.refl _) rep10) e1
      obtain ⟨z, g1, g2⟩ := (getK_rep (k := key) d.rep).1 _ eg
      refine ⟨_, ha, .inr (.inr (.inl ⟨rfl, .inl ⟨vs0, hv0⟩⟩)), ?_⟩
      refine ⟨_, o.s0, x, _, dx, ps, VS, j, .ref ka, rfl, o.at_, hc, hs, hv, v10, s10, ka, z, rfl, .inl ⟨kn, key, Rd.of d.at_, hk, g1.symm⟩, ?_⟩
      cases g2 with
      | dic hF hr2 =>
        rename_i o' us
        have m := o.r.mutd q ha (mergeD_rep hr2 hr)
        refine ⟨a, o', vs0, us, rfl, rfl, fun z => (by rw [z, hF] at fa; cases fa), hv0, o.r.ex _ _ hF, ?_, k _ m.1 m.2⟩
        have l1 := ks_len hr
        have l2 := ks_len hr2
        exact szl (by omega)
    · cases e
  · cases e
def tInner (K : PySem.W.Frag) : TS := tFor (iSeq K (tVar 6)) (gName 10) (tSeq (tUp K 8 "own_known") (tUp K 9 "own_ahead"))
theorem inner_ok {E : Ends} {pk pa : Addr} {dps : List D} (o : Ob K "Plan" F0 H0 x dx F σ H ρ VS) (d1 : Sd K F σ H ρ ka kn dkn) (d2 : Sd K F σ H ρ aa an dan) (hv1 : VS[2]? = some (some (.ref ka))) (hv2 : VS[0]? = some (some (.ref aa)))
    (hc : SlX.SCls K (He.ga K "Plan")) (hs1 : SlX.Slot1 K (He.ga K "Plan") "own_known" pk 2) (hs2 : SlX.Slot1 K (He.ga K "Plan") "own_ahead" pa 0) (h6 : ρ[6]? = some (some (.v (.tup dps)))) (hl : 10 < ρ.length) (e : inner dkn dan dps ρ = some ρ')
    (k : ∀ σ' F' H', Ob K "Plan" F0 H0 x dx F' σ' H' ρ' VS → Sd K F' σ' H' ρ' ka kn dkn → Sd K F' σ' H' ρ' aa an dan → Le F F' → E.nx σ' H') : tInner K E σ H := by
  obtain ⟨v6, s6, rep6⟩ := o.r.val 6 _ h6
  cases rep6 with
  | @tup pp vp _ ht hpl hr =>
    refine for_tuple (a := pp) (va := vp) (fun Q hq => ⟨_, s6, hq⟩) (o.r.ex.le.sqT ht)
      (fun i σ' H' => ∃ F1 ρ1, Ob K "Plan" F0 H0 x dx F1 σ' H' ρ1 VS ∧ Sd K F1 σ' H' ρ1 ka kn dkn ∧ Sd K F1 σ' H' ρ1 aa an dan ∧ Le F F1 ∧ ρ1.length = ρ.length ∧ inner dkn dan (dps.drop i) ρ1 = some ρ')
      ⟨F, ρ, o, d1, d2, Le.refl _, rfl, e⟩ ?_ ?_ ?_
    · rintro i σ' H' ⟨F1, ρ1, o1, _, _, le, _⟩
      exact o1.r.ex.le.sqT (le.sqT ht)
    · rintro i y σ1 H1 ⟨F1, ρ1, o1, a1, a2, le, hlen, ei⟩ hy
      have hi : i < dps.length := by
        rw [← hr.length]
        exact (List.getElem?_eq_some_iff.mp hy).1
      rw [List.drop_eq_getElem_cons hi] at ei
      obtain ⟨ρ2, e1, ei⟩ := Option.bind_eq_some_iff.mp ei
      obtain ⟨ρ3, e2, ei⟩ := Option.bind_eq_some_iff.mp ei
      obtain ⟨y', hy', rep⟩ := hr.get (i := i) (d := dps[i]) (by simp [hi])
      rw [hy] at hy'
      cases hy'
      have sv := o1.r.setV 10 (rep.mono le)
      have o2 := o1.step sv.1 sv.2 (List.getElem?_set_ne (by decide))
      have b1 := a1.step sv.2
      have b2 := a2.step sv.2
      have h10 : (ρ1.set 10 (some (.v dps[i])))[10]? = some (some (.v dps[i])) := set_get (by rw [hlen]; exact hl)
      refine up_ok o2 b1 hv1 hc hs1 h10 e1 fun H2 r3 s3 => ?_
      have o3 := o2.step r3 s3 rfl
      have c1 := b1.step s3
      have c2 := b2.step s3
      have h10' : ρ2[10]? = some (some (.v dps[i])) := by
        obtain ⟨_, _, e1⟩ := Option.bind_eq_some_iff.mp e1
        obtain ⟨_, _, e1⟩ := Option.bind_eq_some_iff.mp e1
        split at e1
        · split at e1
          · cases e1; rw [List.getElem?_set_ne (by decide)]; exact h10
          · cases e1
        · cases e1
      have hl2 : ρ2.length = ρ.length := by
        have := r3.len
        have h2 := o2.r.len
        rw [this, ← h2, List.length_set]; exact hlen
      refine up_ok o3 c2 hv2 hc hs2 h10' e2 fun H3 r4 s4 => ?_
      refine ⟨F1, ρ3, o3.step r4 s4 rfl, c1.step s4, c2.step s4, le, ?_, ei⟩
      rw [r4.len, ← r3.len]; exact hl2
    · rintro σ1 H1 ⟨F1, ρ1, o1, a1, a2, le, hlen, ei⟩
      rw [hr.length, List.drop_length] at ei
      cases ei
      exact k σ1 F1 H1 o1 a1 a2 le
/-! ### one commit's turn -/
theorem relP_len {i : Nat} {p : D × En} (h : relP ρ i = some p) : p.2.length = ρ.length := by
  unfold relP at h
  split at h
  · cases h; rfl
  · cases h; exact List.length_set ..
  · cases h
theorem upK_len {i : Nat} {ks : List (Key × D)} {p : D} (h : upK i ks p ρ = some ρ') : ρ'.length = ρ.length := by
  obtain ⟨_, _, h⟩ := Option.bind_eq_some_iff.mp h
  obtain ⟨_, _, h⟩ := Option.bind_eq_some_iff.mp h
  split at h
  · split at h
    · cases h; exact List.length_set ..
    · cases h
  · cases h
theorem inner_len {k1 k2 : List (Key × D)} : ∀ {ps : List D} {ρ ρ' : En}, inner k1 k2 ps ρ = some ρ' → ρ'.length = ρ.length
  | [], _, _, h => by cases h; rfl
  | p :: ps, ρ, ρ', h => by
    obtain ⟨ρ1, e1, h⟩ := Option.bind_eq_some_iff.mp h
    obtain ⟨ρ2, e2, h⟩ := Option.bind_eq_some_iff.mp h
    rw [inner_len h, upK_len e2, upK_len e1, List.length_set]
abbrev g3 (K : PySem.W.Frag) : TG := gTup K 3 (gCons (gName 5) (gCons (gName 6) (gCons (gName 7) gNil)))
def tLast (K : PySem.W.Frag) : TS := tAsg (tTupF (tCons (tVar 8) (tCons (tVar 9) tNil))) (gTup K 2 (gCons (gSub (SlX.tSl K (tVar 0) "own_known") (tVar 5) rSetD) (gCons (gSub (SlX.tSl K (tVar 0) "own_ahead") (tVar 5) rSetD) gNil)))
theorem last_ok {E : Ends} {pk pa : Addr} {p q : D × En} {n : D} {key : Key} (o : Ob K "Plan" F0 H0 x dx F σ H ρ VS) (d1 : Sd K F σ H ρ ka kn dkn) (d2 : Sd K F σ H ρ aa an dan) (hv1 : VS[2]? = some (some (.ref ka))) (hv2 : VS[0]? = some (some (.ref aa)))
    (hc : SlX.SCls K (He.ga K "Plan")) (hs1 : SlX.Slot1 K (He.ga K "Plan") "own_known" pk 2) (hs2 : SlX.Slot1 K (He.ga K "Plan") "own_ahead" pa 0) (hka : H0 ka = none) (haa : H0 aa = none) (n1 : ka ≠ x) (n2 : ka ≠ dx) (n3 : aa ≠ x) (n4 : aa ≠ dx) (n5 : ka ≠ aa)
    (e1 : relP ρ 8 = some p) (e2 : relP p.2 9 = some q) (e3 : ownV q.2 5 = some n) (e4 : keyD n = some key) (hz : dkn.length < 1000000 ∧ dan.length < 1000000)
    (k : ∀ F' H' kn' an', Ob K "Plan" F0 H0 x dx F' σ H' q.2 VS → Sd K F' σ H' q.2 ka kn' (putD dkn key p.1) → Sd K F' σ H' q.2 aa an' (putD dan key q.1) → Le F F' → E.nx σ H') : tLast K E σ H := by
  obtain ⟨p1, ρ1⟩ := p
  obtain ⟨q1, ρ2⟩ := q
  dsimp only at e2 e3 k
  have at8 : ∃ v, σ[8]? = some (some v) := by
    unfold relP at e1
    split at e1
    · rename_i u; obtain ⟨v, h, _⟩ := o.r.val 8 _ u; exact ⟨v, h⟩
    · rename_i u; obtain ⟨v, h, _⟩ := o.r.own 8 _ u; exact ⟨_, h⟩
    · cases e1
  obtain ⟨v8, s8⟩ := at8
  obtain ⟨F1, r1, t1, x1⟩ := o.r.relP s8 e1
  have at9 : ∃ v, σ[9]? = some (some v) := by
    unfold relP at e2
    split at e2
    · rename_i u; obtain ⟨v, h, _⟩ := r1.val 9 _ u; exact ⟨v, h⟩
    · rename_i u; obtain ⟨v, h, _⟩ := r1.own 9 _ u; exact ⟨_, h⟩
    · cases e2
  obtain ⟨v9, s9⟩ := at9
  obtain ⟨F2, r2, t2, x2⟩ := r1.relP s9 e2
  have o2 := (o.step r1 t1 rfl).step r2 t2 rfl
  have b1 := (d1.step t1).step t2
  have b2 := (d2.step t1).step t2
  have x1' := x1.mono t2.le
  obtain ⟨v5, s5, x5⟩ := r2.val 5 _ (ownV_some e3)
  have hk := key_rb (H := F2) (RB.of (Le.refl _) x5) e4
  subst hk
  refine ⟨v8, s8, v9, s9, (by show 2 ≤ sizeLine; decide), fun t ob ht _ => ?_⟩
  have ne : ∀ {a : Addr}, H a ≠ none → a ≠ t := fun h z => h (by rw [z]; exact ht)
  have o3 : Ob K "Plan" F0 H0 x dx F2 σ (upd H t (.frz ob (.tup [v8, v9]))) ρ2 VS := o2.touch (o2.dom t ht) (r2.dom t ht) (fun z => r2.notO ht z) (ne o2.hx).symm (ne o2.hd).symm
  have c1 := b1.touch (q := t) (u := .frz ob (.tup [v8, v9])) (ne b1.there)
  have c2 := b2.touch (q := t) (u := .frz ob (.tup [v8, v9])) (ne b2.there)
  refine ⟨t, [v8, v9], rfl, .inl (.inr ⟨ob, upd_same⟩), rfl, v8, [v9], rfl, ?_⟩
  have l1 := ks_len c1.rep
  have l2 := ks_len c2.rep
  refine ⟨_, o3.s0, x, _, dx, pk, VS, 2, .ref ka, rfl, o3.at_, hc, hs1, hv1, kV key, s5, ka, upd (upd H t (.frz ob (.tup [v8, v9]))) ka (.dK (putK kn key v8)), rfl, DPut.k c1.at_ (szlt (by omega)), ?_⟩
  have o4 : Ob K "Plan" F0 H0 x dx F2 σ (upd (upd H t (.frz ob (.tup [v8, v9]))) ka (.dK (putK kn key v8))) ρ2 VS := o3.touch hka c1.fp c1.np n1 n2
  have f1 : Sd K F2 σ (upd (upd H t (.frz ob (.tup [v8, v9]))) ka (.dK (putK kn key v8))) ρ2 ka (putK kn key v8) (putD dkn key p1) := ⟨upd_same, c1.fp, c1.np, putD_rep x1' c1.rep⟩
  have f2 := c2.touch (q := ka) (u := .dK (putK kn key v8)) n5.symm
  refine ⟨v9, [], rfl, _, o4.s0, x, _, dx, pa, VS, 0, .ref aa, rfl, o4.at_, hc, hs2, hv2, kV key, s5, aa, upd (upd (upd H t (.frz ob (.tup [v8, v9]))) ka (.dK (putK kn key v8))) aa (.dK (putK an key v9)), rfl, DPut.k f2.at_ (szlt (by omega)), rfl, ?_⟩
  have o5 : Ob K "Plan" F0 H0 x dx F2 σ (upd (upd (upd H t (.frz ob (.tup [v8, v9]))) ka (.dK (putK kn key v8))) aa (.dK (putK an key v9))) ρ2 VS := o4.touch haa f2.fp f2.np n3 n4
  exact k F2 _ _ _ o5 (f1.touch n5) ⟨upd_same, f2.fp, f2.np, putD_rep x2 f2.rep⟩ (t1.le.trans t2.le)
theorem dg3 : DG K (g3 K) h3 [5, 6, 7] := dg_tup (dgs_cons (dg_name 5) (dgs_cons (dg_name 6) (dgs_cons (dg_name 7) dgs_nil)))
def tIb (K : PySem.W.Frag) : TS := tPar 8 9 (tCons (tDc (iSeq K (tVar 7)) (gName 11) tYes (tVar 11) (tC (.bl true)) [11]) (tCons (tDc (iSeq K (tVar 6)) (gName 10) tYes (tVar 10) (tC (.bl true)) [10]) tNil))
theorem ds_ib : DS K [8, 9] (tIb K) ib :=
  ds_par (i := 8) (j := 9) (by decide) (by decide) (dx_dc (ms := []) (vs := [11]) (di_rel (dx_var 7)) (dg_name 11) (by decide) dt_yes (dx_var 11) (dx_c fun _ => .bl _)) (dx_dc (ms := []) (vs := [10]) (di_rel (dx_var 6)) (dg_name 10) (by decide) dt_yes (dx_var 10) (dx_c fun _ => .bl _))
def tBody (K : PySem.W.Frag) : TS := tSeq (tIb K) (tSeq (tInner K) (tLast K))
theorem turn_ok {E : Ends} {pk pa : Addr} {y : V} {d : D} {z : En × List (Key × D) × List (Key × D)} (o : Ob K "Plan" F0 H0 x dx F σ H ρ VS) (d1 : Sd K F σ H ρ ka kn dkn) (d2 : Sd K F σ H ρ aa an dan) (hv1 : VS[2]? = some (some (.ref ka))) (hv2 : VS[0]? = some (some (.ref aa)))
    (hc : SlX.SCls K (He.ga K "Plan")) (hs1 : SlX.Slot1 K (He.ga K "Plan") "own_known" pk 2) (hs2 : SlX.Slot1 K (He.ga K "Plan") "own_ahead" pa 0) (hka : H0 ka = none) (haa : H0 aa = none) (n1 : ka ≠ x) (n2 : ka ≠ dx) (n3 : aa ≠ x) (n4 : aa ≠ dx) (n5 : ka ≠ aa)
    (rep : Rep K F y d) (e : turn d ρ dkn dan = some z)
    (k : ∀ σ' F' H' kn' an', Ob K "Plan" F0 H0 x dx F' σ' H' z.1 VS → Sd K F' σ' H' z.1 ka kn' z.2.1 → Sd K F' σ' H' z.1 aa an' z.2.2 → Le F F' → z.1.length = 12 → E.nx σ' H') : g3 K y σ H fun σ2 H2 => tBody K E σ2 H2 := by
  obtain ⟨ρ1, e1, e⟩ := Option.bind_eq_some_iff.mp e
  split at e
  · rename_i ρ2 e2
    split at e
    rotate_left
    · cases e
    rename_i len2
    obtain ⟨ps, e3, e⟩ := Option.bind_eq_some_iff.mp e
    obtain ⟨ρ3, e4, e⟩ := Option.bind_eq_some_iff.mp e
    obtain ⟨p, e5, e⟩ := Option.bind_eq_some_iff.mp e
    obtain ⟨q, e6, e⟩ := Option.bind_eq_some_iff.mp e
    obtain ⟨n, e7, e⟩ := Option.bind_eq_some_iff.mp e
    obtain ⟨key, e8, e⟩ := Option.bind_eq_some_iff.mp e
    split at e
    · rename_i hz
      cases e
      refine dg3 F σ H ρ y d ρ1 _ o.r rep e1 fun σ1 F1 H1 r1 s1 k1 l1 => ?_
      have o1 := o.step r1 s1 (k1 0 (by decide))
      refine ds_ib F1 σ1 H1 ρ1 _ _ r1 e2 fun σ2 F2 H2 r2 s2 kp2 => ?_
      have o2 := o1.step r2 s2 (kp2 0 (by decide))
      have s12 := s1.trans s2
      refine inner_ok o2 (d1.step s12) (d2.step s12) hv1 hv2 hc hs1 hs2 (tupV_some e3) (by omega) e4 fun σ3 F3 H3 o3 c1 c2 le3 => ?_
      refine last_ok o3 c1 c2 hv1 hv2 hc hs1 hs2 hka haa n1 n2 n3 n4 n5 e5 e6 e7 e8 hz fun F4 H4 kn' an' o4 f1 f2 le4 => ?_
      refine k σ3 F4 H4 kn' an' o4 f1 f2 ((s12.le.trans le3).trans le4) ?_
      rw [relP_len e6, relP_len e5, inner_len e4, len2]
    · cases e
  · cases e
abbrev tLoop (K : PySem.W.Frag) : TS := tFor (iSeq K (tVar 4)) (g3 K) (tBody K)
theorem rounds_ok {E : Ends} {pk pa : Addr} {cs : List D} {z : List (Key × D) × List (Key × D)} (o : Ob K "Plan" F0 H0 x dx F σ H ρ VS) (d1 : Sd K F σ H ρ ka kn dkn) (d2 : Sd K F σ H ρ aa an dan) (hv1 : VS[2]? = some (some (.ref ka))) (hv2 : VS[0]? = some (some (.ref aa)))
    (hc : SlX.SCls K (He.ga K "Plan")) (hs1 : SlX.Slot1 K (He.ga K "Plan") "own_known" pk 2) (hs2 : SlX.Slot1 K (He.ga K "Plan") "own_ahead" pa 0) (hka : H0 ka = none) (haa : H0 aa = none) (n1 : ka ≠ x) (n2 : ka ≠ dx) (n3 : aa ≠ x) (n4 : aa ≠ dx) (n5 : ka ≠ aa)
    (e4 : tupV ρ 4 = some cs) (e : rounds cs ρ dkn dan = some z)
    (k : ∀ σ' F' H' ρ' kn' an', Ob K "Plan" F0 H0 x dx F' σ' H' ρ' VS → Sd K F' σ' H' ρ' ka kn' z.1 → Sd K F' σ' H' ρ' aa an' z.2 → Le F F' → E.nx σ' H') : tLoop K E σ H := by
  obtain ⟨v4, s4, rep4⟩ := o.r.val 4 _ (tupV_some e4)
  cases rep4 with
  | @tup pc vc _ ht hpl hr =>
    refine for_tuple (a := pc) (va := vc) (fun Q hq => ⟨_, s4, hq⟩) (o.r.ex.le.sqT ht)
      (fun i σ' H' => ∃ F1 ρ1 kn1 an1 dk da, Ob K "Plan" F0 H0 x dx F1 σ' H' ρ1 VS ∧ Sd K F1 σ' H' ρ1 ka kn1 dk ∧ Sd K F1 σ' H' ρ1 aa an1 da ∧ Le F F1 ∧ rounds (cs.drop i) ρ1 dk da = some z)
      ⟨F, ρ, kn, an, dkn, dan, o, d1, d2, Le.refl _, e⟩ ?_ ?_ ?_
    · rintro i σ' H' ⟨F1, ρ1, _, _, _, _, o1, _, _, le, _⟩
      exact o1.r.ex.le.sqT (le.sqT ht)
    · rintro i y σ1 H1 ⟨F1, ρ1, kn1, an1, dk, da, o1, a1, a2, le, ei⟩ hy
      have hi : i < cs.length := by
        rw [← hr.length]
        exact (List.getElem?_eq_some_iff.mp hy).1
      rw [List.drop_eq_getElem_cons hi] at ei
      obtain ⟨w, e1, ei⟩ := Option.bind_eq_some_iff.mp ei
      obtain ⟨y', hy', rep⟩ := hr.get (i := i) (d := cs[i]) (by simp [hi])
      rw [hy] at hy'
      cases hy'
      refine turn_ok o1 a1 a2 hv1 hv2 hc hs1 hs2 hka haa n1 n2 n3 n4 n5 (rep.mono le) e1 fun σ2 F2 H2 kn2 an2 o2 b1 b2 le2 hl2 => ?_
      exact ⟨F2, w.1, kn2, an2, w.2.1, w.2.2, o2, b1, b2, le.trans le2, ei⟩
    · rintro σ1 H1 ⟨F1, ρ1, kn1, an1, dk, da, o1, a1, a2, le, ei⟩
      rw [hr.length, List.drop_length] at ei
      cases ei
      exact k σ1 F1 H1 ρ1 kn1 an1 o1 a1 a2 le
/-! ### all of it -/
abbrev t1i (K : PySem.W.Frag) : TS := tAsg (tCall (spP K 1 (m_tupled 6)) [] C8.E0 (tCons (tVar 1) tNil)) (gTup K 3 (gCons (gName 2) (gCons (gName 3) (gCons (gName 4) gNil))))
theorem ds_i1 : DS K [2, 3, 4] (t1i K) i1 := ds_asg (by decide) (dx_call (da_cons (dx_var 1) da_nil) (ln_cons ln_nil)) (dg_tup (dgs_cons (dg_name 2) (dgs_cons (dg_name 3) (dgs_cons (dg_name 4) dgs_nil))))
abbrev t4i (K : PySem.W.Frag) (j : Nat) : TE := tDc (iSeq K (tVar 4)) (g3 K) tYes (tVar 5) (tVar j) [5, 6, 7]
theorem dx_i4 : DX K (t4i K 6) i4 := dx_dc (ms := []) (vs := [5, 6, 7]) (di_rel (dx_var 4)) dg3 (by decide) dt_yes (dx_var 5) (dx_var 6)
theorem dx_i5 : DX K (t4i K 7) i5 := dx_dc (ms := []) (vs := [5, 6, 7]) (di_rel (dx_var 4)) dg3 (by decide) dt_yes (dx_var 5) (dx_var 7)
abbrev t6i (K : PySem.W.Frag) : TS := tAsg (tTupF (tCons tDNewK (tCons tDNewK tNil))) (gTup K 2 (gCons (gSl K (tVar 0) "own_known") (gCons (gSl K (tVar 0) "own_ahead") gNil)))
abbrev tInit (K : PySem.W.Frag) : TS := tSeq (t1i K) (tSeq (SlX.sSl K (tVar 0) (tFzE (tCB (rDictT K) (tCons (tVar 2) tNil))) "own_numbers") (tSeq (SlX.sSl K (tVar 0) (tVar 3) "own_touching") (tSeq (SlX.sSl K (tVar 0) (t4i K 6) "own_parents") (tSeq (SlX.sSl K (tVar 0) (t4i K 7) "own_fresh") (tSeq (t6i K) (tLoop K))))))
def n_Plan___init__ : List Str := ["self", "plan", "steps", "touching", "commits", "name", "parents", "fresh", "known", "ahead", "parent", "step"]
theorem startP_own {d : D} {i : Nat} {e : D} : (startP d)[i]? ≠ some (some (.o e)) := fun h => by
  rcases i with _ | _ | i
  · cases h
  · cases h
  · have h : (List.replicate 10 (none : Option Ent))[i]? = some (some (.o e)) := h
    rw [List.getElem?_replicate] at h
    split at h <;> cases h
theorem startP_R {u : V} {d : D} (ex : Ex F H) (dom : ∀ a, H a = none → F a = none) (rep : Rep K F u d) : R K F (start n_Plan___init__ [.ref x, u]) H (startP d) := by
  refine ⟨ex, dom, rfl, fun i e h => ?_, fun i e h => absurd h startP_own, fun i j e f a h => absurd h startP_own⟩
  rcases i with _ | _ | i
  · cases h
  · cases h; exact ⟨u, rfl, rep⟩
  · have h : (List.replicate 10 (none : Option Ent))[i]? = some (some (.v e)) := h
    rw [List.getElem?_replicate] at h
    split at h <;> cases h
theorem init_ok {mg : Str → Option Value} {vs : List V} {Q : VK} {E : XK} (T : Tx K mg) (h : spNew K "Plan" 1 m_Plan vs H Q E) : tInit K { nx := fun _ H' => Q .non H', rt := Q } (start n_Plan___init__ vs) H := by
  obtain ⟨x, dx, us, F, ds, d, rfl, hn, hx, hdx, ne, fx, fdx, ex, dom, reps, e, k⟩ := h
  obtain ⟨u, rfl⟩ : ∃ u, us = [u] := List.length_eq_one_iff.mp hn
  cases reps with
  | cons rep0 reps =>
  cases reps
  rename_i d0
  have hc := T.k_Plan
  have hs1 := T.s_Plan_own_known
  have hs2 := T.s_Plan_own_ahead
  dsimp only [m_Plan] at e
  split at e
  · rename_i ρ1 e1
    obtain ⟨p2, e2, e⟩ := Option.bind_eq_some_iff.mp e
    obtain ⟨p3, e3, e⟩ := Option.bind_eq_some_iff.mp e
    obtain ⟨p4, e4, e⟩ := Option.bind_eq_some_iff.mp e
    obtain ⟨p5, e5, e⟩ := Option.bind_eq_some_iff.mp e
    obtain ⟨cs, e6, e⟩ := Option.bind_eq_some_iff.mp e
    obtain ⟨z, e7, e⟩ := Option.map_eq_some_iff.mp e
    cases e
    obtain ⟨⟨w2, r2⟩, e2, f2⟩ := Option.bind_eq_some_iff.mp e2
    obtain ⟨⟨w3, r3⟩, e3, f3⟩ := Option.bind_eq_some_iff.mp e3
    obtain ⟨⟨w4, r4⟩, e4, f4⟩ := Option.bind_eq_some_iff.mp e4
    obtain ⟨⟨w5, r5⟩, e5, f5⟩ := Option.bind_eq_some_iff.mp e5
    have nO : ∀ a, ¬ Owned (start n_Plan___init__ [.ref x, u]) (startP d0) a := fun a ⟨i, d, h, _⟩ => startP_own h
    have o0 : Ob K "Plan" F H x dx F (start n_Plan___init__ [.ref x, u]) H (startP d0) [] :=
      ⟨startP_R ex dom rep0, .inl ⟨hx, rfl⟩, by rw [hdx]; simp, fx, fdx, nO x, nO dx, ne, rfl, Le.refl _, fun _ _ _ _ h => h, fun _ h => h, fun _ _ _ _ => rfl, fun a _ _ h => absurd h (nO a)⟩
    refine ds_i1 F _ H _ _ _ o0.r e1 fun σ1 F1 H1 r1 s1 kp1 => ?_
    have o1 := o0.step r1 s1 (kp1 0 (by decide))
    refine ob_set o1 hc T.s_Plan_own_numbers (dx_fz (dx_cb1 ud_dictT (dx_var 2))) e2 f2 fun y2 F2 H2 o2 x2 le2 => ?_
    refine ob_set o2 hc T.s_Plan_own_touching (dx_var 3) e3 f3 fun y3 F3 H3 o3 x3 le3 => ?_
    refine ob_set o3 hc T.s_Plan_own_parents dx_i4 e4 f4 fun y4 F4 H4 o4 x4 le4 => ?_
    refine ob_set o4 hc T.s_Plan_own_fresh dx_i5 e5 f5 fun y5 F5 H5 o5 x5 le5 => ?_
    have o5 : Ob K "Plan" F H x dx F5 σ1 H5 p5.2 [none, some y5, none, some y2, some y4, some y3] := o5
    refine fun ka hka aa haa => ⟨(by show 2 ≤ sizeLine; decide), fun t ob ht _ => ?_⟩
    have n5 : aa ≠ ka := fun z => by rw [z, upd_same] at haa; cases haa
    rw [upd_ne n5] at haa
    have n6 : t ≠ aa := fun z => by rw [z, upd_same] at ht; cases ht
    rw [upd_ne n6] at ht
    have n7 : t ≠ ka := fun z => by rw [z, upd_same] at ht; cases ht
    rw [upd_ne n7] at ht
    have far : ∀ {a : Addr}, H5 a = none → a ≠ x ∧ a ≠ dx := fun h => ⟨fun z => o5.hx (z ▸ h), fun z => o5.hd (z ▸ h)⟩
    have oA := o5.touch (u := .dK []) (o5.dom ka hka) (o5.r.dom ka hka) (fun z => o5.r.notO hka z) (far hka).1 (far hka).2
    have oB := oA.touch (u := .dK []) (o5.dom aa haa) (o5.r.dom aa haa) (fun z => o5.r.notO haa z) (far haa).1 (far haa).2
    have oC := oB.touch (u := .frz ob (.tup [.ref ka, .ref aa])) (o5.dom t ht) (o5.r.dom t ht) (fun z => o5.r.notO ht z) (far ht).1 (far ht).2
    have oD := oC.slot [none, some y5, some (.ref ka), some y2, some y4, some y3]
    have oE := oD.slot [some (.ref aa), some y5, some (.ref ka), some y2, some y4, some y3]
    have k1 : Sd K F5 σ1 (upd H5 ka (.dK [])) p5.2 ka [] [] := ⟨upd_same, o5.r.dom ka hka, fun z => o5.r.notO hka z, .nil⟩
    have k2 := ((((k1.touch (q := aa) (u := .dK []) n5.symm).touch (q := t) (u := .frz ob (.tup [.ref ka, .ref aa])) n7.symm).slot (C := He.ga K "Plan") (vs' := [none, some y5, some (.ref ka), some y2, some y4, some y3]) (far hka).1 (far hka).2).slot (C := He.ga K "Plan") (vs' := [some (.ref aa), some y5, some (.ref ka), some y2, some y4, some y3]) (far hka).1 (far hka).2)
    have a1 : Sd K F5 σ1 (upd (upd H5 ka (.dK [])) aa (.dK [])) p5.2 aa [] [] := ⟨upd_same, o5.r.dom aa haa, fun z => o5.r.notO haa z, .nil⟩
    have a2 := (((a1.touch (q := t) (u := .frz ob (.tup [.ref ka, .ref aa])) n6.symm).slot (C := He.ga K "Plan") (vs' := [none, some y5, some (.ref ka), some y2, some y4, some y3]) (far haa).1 (far haa).2).slot (C := He.ga K "Plan") (vs' := [some (.ref aa), some y5, some (.ref ka), some y2, some y4, some y3]) (far haa).1 (far haa).2)
    refine ⟨t, [.ref ka, .ref aa], rfl, .inl (.inr ⟨ob, upd_same⟩), rfl, .ref ka, [.ref aa], rfl, ?_⟩
    refine ⟨_, oC.s0, x, _, dx, _, _, 2, rfl, oC.at_, hc, hs1, .ref aa, [], rfl, ?_⟩
    refine ⟨_, oD.s0, x, _, dx, _, _, 0, rfl, oD.at_, hc, hs2, rfl, ?_⟩
    refine rounds_ok oE k2 a2 rfl rfl hc hs1 hs2 (o5.dom ka hka) (o5.dom aa haa) (far hka).1 (far hka).2 (far haa).1 (far haa).2 n5.symm e6 e7 fun σ' F' H' ρ' kn' an' o d1 d2 le => ?_
    obtain ⟨G1, g1, ex1, same1, rk⟩ := o.r.give (d := .dic z.1) ⟨d1.fp, kn', d1.at_, d1.rep⟩ d1.np
    obtain ⟨G2, g2, ex2, same2, ra⟩ := g1.give (a := aa) (d := .dic z.2) ⟨(same1 aa n5).trans d2.fp, an', d2.at_, RepKs.mono ex1.le d2.rep⟩ d2.np
    rcases o.at_ with ⟨_, b⟩ | ⟨hX, hD⟩
    · cases b
    have nxk : x ≠ ka := (far hka).1.symm
    have nxa : x ≠ aa := (far haa).1.symm
    have ndk : dx ≠ ka := (far hka).2.symm
    have nda : dx ≠ aa := (far haa).2.symm
    have gx : G2 x = none := ((same2 x nxa).trans (same1 x nxk)).trans o.fx
    have gd : G2 dx = none := ((same2 dx nda).trans (same1 dx ndk)).trans o.fd
    have ex3 : Ex G2 (upd G2 dx (.xd [])) := Ex.new gd
    have gx' : upd G2 dx (.xd []) x = none := (upd_ne ne.symm).trans gx
    have ex4 : Ex (upd G2 dx (.xd [])) (upd (upd G2 dx (.xd [])) x (SlX.SlO x (He.ga K "Plan") dx [some (.ref aa), some y5, some (.ref ka), some y2, some y4, some y3])) := Ex.new gx'
    have leAll : Le F' (upd (upd G2 dx (.xd [])) x (SlX.SlO x (He.ga K "Plan") dx [some (.ref aa), some y5, some (.ref ka), some y2, some y4, some y3])) := (ex1.trans (ex2.trans (ex3.trans ex4))).le
    refine k _ H' o.keep (fun a w h => ?_) (fun a h => ?_) (o.le.trans leAll) (fun a h h1 h2 => ?_) (by rw [hX]; simp) (by rw [hD]; simp) ?_
    · by_cases h1 : a = x
      · subst h1; rw [upd_same] at h; rw [hX]; exact h
      · rw [upd_ne h1] at h
        by_cases h2 : a = dx
        · subst h2; rw [upd_same] at h; rw [hD]; exact h
        · rw [upd_ne h2] at h; exact g2.ex a w h
    · have h1 : a ≠ x := fun z => by rw [z, hX] at h; cases h
      have h2 : a ≠ dx := fun z => by rw [z, hD] at h; cases h
      rw [upd_ne h1, upd_ne h2]; exact g2.dom a h
    · rw [upd_ne h1, upd_ne h2, same2 a (fun z => h (z ▸ o5.dom aa haa)), same1 a (fun z => h (z ▸ o5.dom ka hka))]
      exact o.frz a h h1 h2
    · exact .obj (.inr ⟨upd_same, (upd_ne ne).trans upd_same⟩) (.some (ra.mono (ex3.trans ex4).le) (.some (x5.mono (le.trans leAll)) (.some (rk.mono (ex2.trans (ex3.trans ex4)).le) (.some (x2.mono ((((le3.trans le4).trans le5).trans le).trans leAll)) (.some (x4.mono ((le5.trans le).trans leAll)) (.some (x3.mono (((le4.trans le5).trans le).trans leAll)) .nil))))))
  · cases e
end
end Bl
namespace Bl
open PySem PySem.Spec PyProof.Rows L2 Evl
section
variable {P : Program} {w : World} {K : PySem.W.Frag} {mg : Str → Option Value} {base : Heap}
/-! Plan.__init__ -/
theorem sc_Plan___init__ : FnScope n_Plan___init__ ["self", "plan"] d_Plan___init__.scope := ⟨rfl, rfl, rfl, by decide +kernel, rfl, by decide +kernel, by decide +kernel⟩
theorem mk_Plan (T : Tx K mg) : C8.Mak P w K mg base 8 "Plan" (He.ga K "Plan") (spNew K "Plan" 1 m_Plan) [] := by
  obtain ⟨fd, F⟩ := T.says.def_ 3 (d := d_Plan___init__) rfl
  refine ⟨_, fd, ["self", "plan"], [], T.mk_Plan, F.ok (k := 7) sc_Plan___init__ (fun vs H Q E h => spNew_len h) (fun cdv A outer s H vs Q E hr h => ?_), T.f_Plan, F.bindsN fun _ _ _ _ _ _ us hl => match us, hl with | [_, _], _ => rfl, .nil⟩
  have nd := sc_Plan___init__.nd
  exact ⟨_, PSs.nox
      (pss_cons (ps_asg (C8.pe_c (c_tupled T 6) hr (by decide) rfl (pa_cons (pv 1) pa_nil)) (pg_tup rfl (pgs_cons (pg_name (i := 2) nd rfl (Or.inl rfl)) (pgs_cons (pg_name (i := 3) nd rfl (Or.inl rfl)) (pgs_cons (pg_name (i := 4) nd rfl (Or.inl rfl)) pgs_nil)))))
      (pss_cons (SlX.ps_sl (pv 0) (pe_fz (pe_callTy (cr_dictT rfl) rfl T.g_dict (by rfl) (pa_cons (pv 2) pa_nil))))
      (pss_cons (SlX.ps_sl (pv 0) (pv 3))
      (pss_cons (SlX.ps_sl (pv 0) (pe_dc (own := [("name", 5), ("parents", 6), ("fresh", 7)]) rfl nd (pi_seq (pv 4)) (blkOk_by (N := n_Plan___init__) (sc := d_Plan___init__.scope) (by decide +kernel)) (fun _ _ _ _ _ => (pg_tup rfl (pgs_cons (pg_name (i := 5) nd rfl (Or.inl rfl)) (pgs_cons (pg_name (i := 6) nd rfl (Or.inl rfl)) (pgs_cons (pg_name (i := 7) nd rfl (Or.inl rfl)) pgs_nil))))) (fun _ _ _ _ _ => pts_nil) (fun _ _ _ _ _ => (pv 5)) (fun _ _ _ _ _ => (pv 6))))
      (pss_cons (SlX.ps_sl (pv 0) (pe_dc (own := [("name", 5), ("parents", 6), ("fresh", 7)]) rfl nd (pi_seq (pv 4)) (blkOk_by (N := n_Plan___init__) (sc := d_Plan___init__.scope) (by decide +kernel)) (fun _ _ _ _ _ => (pg_tup rfl (pgs_cons (pg_name (i := 5) nd rfl (Or.inl rfl)) (pgs_cons (pg_name (i := 6) nd rfl (Or.inl rfl)) (pgs_cons (pg_name (i := 7) nd rfl (Or.inl rfl)) pgs_nil))))) (fun _ _ _ _ _ => pts_nil) (fun _ _ _ _ _ => (pv 5)) (fun _ _ _ _ _ => (pv 7))))
      (pss_cons (ps_asg (pe_tupF (pa_cons pe_dnewK (pa_cons pe_dnewK pa_nil))) (pg_tup rfl (pgs_cons (pg_sl (pv 0)) (pgs_cons (pg_sl (pv 0)) pgs_nil))))
      (pss_one (ps_for PassesOwn.never rfl (pi_seq (pv 4)) (pg_tup rfl (pgs_cons (pg_name (i := 5) nd rfl (Or.inl rfl)) (pgs_cons (pg_name (i := 6) nd rfl (Or.inl rfl)) (pgs_cons (pg_name (i := 7) nd rfl (Or.inl rfl)) pgs_nil)))) (pss_cons (ps_par (i := 8) (j := 9) rfl nd rfl rfl (by decide) rfl rfl (pa_cons (pe_dc (own := [("step", 11)]) rfl nd (pi_seq (pv 7)) (blkOk_by (N := n_Plan___init__) (sc := d_Plan___init__.scope) (by decide +kernel)) (fun _ _ _ _ _ => (pg_name (i := 11) nd rfl (Or.inl rfl))) (fun _ _ _ _ _ => pts_nil) (fun _ _ _ _ _ => (pv 11)) (fun _ _ _ _ _ => pe_bl)) (pa_cons (pe_dc (own := [("parent", 10)]) rfl nd (pi_seq (pv 6)) (blkOk_by (N := n_Plan___init__) (sc := d_Plan___init__.scope) (by decide +kernel)) (fun _ _ _ _ _ => (pg_name (i := 10) nd rfl (Or.inl rfl))) (fun _ _ _ _ _ => pts_nil) (fun _ _ _ _ _ => (pv 10)) (fun _ _ _ _ _ => pe_bl)) pa_nil)) (by rfl)) (pss_cons (ps_for PassesOwn.never rfl (pi_seq (pv 6)) (pg_name (i := 10) nd rfl (Or.inl rfl)) (pss_cons (ps_expr (pe_bm PySem.F.plainAttrs_dict PySem.F.slot_dict_update PySem.F.type_dict_update mt_updateD (pv 8) (pa_cons (pe_dget (hu_of hr) (SlX.pe_sl (pv 0)) (pv 10) (fun _ _ => rfl)) pa_nil))) (pss_one (ps_expr (pe_bm PySem.F.plainAttrs_dict PySem.F.slot_dict_update PySem.F.type_dict_update mt_updateD (pv 9) (pa_cons (pe_dget (hu_of hr) (SlX.pe_sl (pv 0)) (pv 10) (fun _ _ => rfl)) pa_nil)))))) (pss_one (ps_asg (pe_tupF (pa_cons (pv 8) (pa_cons (pv 9) pa_nil))) (pg_tup rfl (pgs_cons (pg_sub (SlX.pe_sl (pv 0)) (pv 5) (set_dict (hu_of hr))) (pgs_cons (pg_sub (SlX.pe_sl (pv 0)) (pv 5) (set_dict (hu_of hr))) pgs_nil))))))))))))))), init_ok T h⟩
end
end Bl
namespace Bl
open PySem PySem.Spec PyProof.Rows L2 Evl
section
variable {P : Program} {w : World} {K : PySem.W.Frag} {mg : Str → Option Value} {base : Heap}
/-! _law_cells -/
def n__law_cells : List Str := ["_law_script", "_law_most", "_law_cells_here", "_law_k", "_law_cell", "_law_at_so"]
theorem sc__law_cells : FnScope n__law_cells ["_law_script", "_law_most"] d__law_cells.scope := ⟨rfl, rfl, rfl, by decide +kernel, rfl, by decide +kernel, by decide +kernel⟩
def b__law_cells : Sv :=
    (sSeq (sSet 2 (sOrT (sUn listD (sSlice (sVar 0) sNoPart (sPart (sVar 1)))) (sLst (sCons (sC (.int 0)) sNil))))
    (sSeq (sFor (cEnum (sCons (sSlice (sVar 0) (sPart (sVar 1)) (sPart (sC (.int 63)))) sNil)) (hTup 2 (hCons (hName 3) (hCons (hName 4) hNil))) (sSeq (sSet 5 (sOp (iOp modI) (sUn intD (sVar 3)) (sVar 1)))
    (sSetIx 2 (sVar 5) (sOp addU (sOp ixSeq (sVar 2) (sVar 5)) (sOp mulU (sVar 4) (sOp addU (sVar 3) (sC (.int 2))))))))
    (sRet (sVar 2))))
def m__law_cells : List D → Option Opd := runP 6 b__law_cells
theorem o__law_cells (T : Tx K mg) : ∃ fd, FunD K "_law_cells" "_law_cells" d__law_cells.params d__law_cells.body d__law_cells.scope [] [] (He.fAd K d__law_cells.at_) fd ∧ FnOk P w K mg base CX0 1 (He.fAd K d__law_cells.at_) fd ["_law_script", "_law_most"] (spP K 2 m__law_cells) := by
  obtain ⟨fd, F⟩ := T.says.def_ 34 (d := d__law_cells) rfl
  refine ⟨fd, F, F.ok (k := 0) sc__law_cells (fun vs H Q E h => spP_len h) (fun cdv A outer s H vs Q E hr h => ?_)⟩
  have nd := sc__law_cells.nd
  exact ⟨_, PSs.nox
      (pss_cons (ps_set (i := 2) nd rfl (Or.inl rfl) (pe_orT (pe_callTy call_list_of rfl T.g_list (by rfl) (pa_cons (pe_slice sl_U (pv 0) po_none (po_some (pv 1))) pa_nil)) (pe_one (pe_lst (pa_cons pe_int pa_nil))))) (pss_cons (ps_for PassesOwn.never rfl (pi_enum rfl T.g_enumerate (pa_cons (pe_slice sl_U (pv 0) (po_some (pv 1)) (po_some pe_int)) pa_nil)) (pg_tup rfl (pgs_cons (pg_name (i := 3) nd rfl (Or.inl rfl)) (pgs_cons (pg_name (i := 4) nd rfl (Or.inl rfl)) pgs_nil))) (pss_cons (ps_set (i := 5) nd rfl (Or.inl rfl) (pe_op op_mod (pe_callTy call_int1 rfl T.g_int (by rfl) (pa_cons (pv 3) pa_nil)) (pv 1))) (pss_one (ps_asg (pe_op op_addU (pe_ix ix_seq (pv 2) (pv 5) (fun _ _ => rfl)) (pe_op op_mulU (pv 4) (pe_op op_addU (pv 3) pe_int))) (pg_sub (pv 2) (pv 5) set_list))))) (pss_one (ps_ret (pv 2))))),
      fn_P (N := n__law_cells) (as := [2, 3, 4, 5]) (f := b__law_cells)
      (ds_seq (ds_set 2 (by decide) (dx_orT (dx_cb1 ud_list (dx_slice (dx_var 0) do_none (do_some (dx_var 1)))) (dx_lst (da_cons (dx_c fun _ => .int _) da_nil)))) (ds_seq (ds_for (by decide) (di_enum (da_cons (dx_slice (dx_var 0) (do_some (dx_var 1)) (do_some (dx_c fun _ => .int _))) da_nil)) (dg_tup (dgs_cons (dg_name 3) (dgs_cons (dg_name 4) dgs_nil))) (ds_seq (ds_set 5 (by decide) (dx_op od_mod (dx_cb1 ud_int (dx_var 3)) (dx_var 1))) (ds_setIx 2 (dx_var 5) (dx_op od_addU (dx_op od_ixSeq (dx_var 2) (dx_var 5)) (dx_op od_mulU (dx_var 4) (dx_op od_addU (dx_var 3) (dx_c fun _ => .int _))))))) (ds_ret (dx_var 2)))) h⟩
theorem c__law_cells (T : Tx K mg) : C8.Cal P w K mg base 1 "_law_cells" (spP K 2 m__law_cells) [] := by
  obtain ⟨fd, F, ok⟩ := o__law_cells (P := P) (w := w) (base := base) T
  exact ⟨_, fd, ["_law_script", "_law_most"], [], ok, T.f__law_cells, F.kp, F.bindsN fun _ _ _ _ _ _ us hl => match us, hl with | [_, _], _ => rfl, .nil⟩
/-! _law_take -/
def n__law_take : List Str := ["_law_box_here", "_law_below", "_law_drawn", "_law_once", "_law_odd", "_law_twice"]
theorem sc__law_take : FnScope n__law_take ["_law_box_here", "_law_below"] d__law_take.scope := ⟨rfl, rfl, rfl, by decide +kernel, rfl, by decide +kernel, by decide +kernel⟩
def b__law_take : Sv :=
    (sSeq (sIfS (sB (sOp (iCmp fun i j => decide (j < i)) (sOp ixSeq (sVar 0) (sC (.int 0))) (sC (.int 0)))) (sSeq (sSet 2 (sOp (iOp modI) (sUn intD (sOp ixSeq (sVar 0) (sC (.int 0)))) (sVar 1)))
    (sSeq (sSetIx 0 (sC (.int 0)) (sOp (iOp fdivI) (sOp ixSeq (sVar 0) (sC (.int 0))) (sVar 1)))
    (sRet (sVar 2)))) sNext)
    (sSeq (sSetIx 0 (sC (.int 2)) (sOp addU (sOp ixSeq (sVar 0) (sC (.int 2))) (sC (.int 1))))
    (sSeq (sSet 3 (sOp (iOp modI) (sUn intD (sOp mulU (sOp addU (sOp ixSeq (sVar 0) (sC (.int 1))) (sOp mulU (sC (.int 48271)) (sOp ixSeq (sVar 0) (sC (.int 2))))) (sOp addU (sC (.int 39373)) (sOp ixSeq (sVar 0) (sC (.int 2)))))) (sC (.int 2147483647))))
    (sSeq (sSet 4 (sOp addU (sOp (iOp modI) (sUn intD (sVar 3)) (sC (.int 40009))) (sC (.int 7))))
    (sSeq (sSet 5 (sOp (iOp modI) (sUn intD (sOp mulU (sOp addU (sOp addU (sVar 3) (sOp ixSeq (sVar 0) (sC (.int 2)))) (sOp (iOp fdivI) (sOp ixSeq (sVar 0) (sC (.int 1))) (sC (.int 1000003)))) (sVar 4))) (sC (.int 2147483629))))
    (sRet (sOp (iOp modI) (sUn intD (sOp (iOp fdivI) (sOp (iOp modI) (sUn intD (sOp addU (sOp mulU (sVar 5) (sC (.int 48271))) (sVar 3))) (sC (.int 2147483587))) (sC (.int 64)))) (sVar 1))))))))
def m__law_take : D → List D → Option (Opd × D) := runI 6 b__law_take
theorem o__law_take (T : Tx K mg) : ∃ fd, FunD K "_law_take" "_law_take" d__law_take.params d__law_take.body d__law_take.scope [] [] (He.fAd K d__law_take.at_) fd ∧ FnOk P w K mg base CX0 1 (He.fAd K d__law_take.at_) fd ["_law_box_here", "_law_below"] (spI K 1 m__law_take) := by
  obtain ⟨fd, F⟩ := T.says.def_ 33 (d := d__law_take) rfl
  refine ⟨fd, F, F.ok (k := 0) sc__law_take (fun vs H Q E h => spI_len h) (fun cdv A outer s H vs Q E hr h => ?_)⟩
  have nd := sc__law_take.nd
  exact ⟨_, PSs.nox
      (pss_cons (ps_if (pt_cmpR op_gt (pe_ix ix_seq (pv 0) pe_int (fun _ _ => rfl)) pe_int (nomark _)) (pss_cons (ps_set (i := 2) nd rfl (Or.inl rfl) (pe_op op_mod (pe_callTy call_int1 rfl T.g_int (by rfl) (pa_cons (pe_ix ix_seq (pv 0) pe_int (fun _ _ => rfl)) pa_nil)) (pv 1))) (pss_cons (ps_asg (pe_op op_fdiv (pe_ix ix_seq (pv 0) pe_int (fun _ _ => rfl)) (pv 1)) (pg_sub (pv 0) pe_int set_list)) (pss_one (ps_ret (pv 2))))) pss_nil) (pss_cons (ps_asg (pe_op op_addU (pe_ix ix_seq (pv 0) pe_int (fun _ _ => rfl)) pe_int) (pg_sub (pv 0) pe_int set_list)) (pss_cons (ps_set (i := 3) nd rfl (Or.inl rfl) (pe_op op_mod (pe_callTy call_int1 rfl T.g_int (by rfl) (pa_cons (pe_op op_mulU (pe_op op_addU (pe_ix ix_seq (pv 0) pe_int (fun _ _ => rfl)) (pe_op op_mulU pe_int (pe_ix ix_seq (pv 0) pe_int (fun _ _ => rfl)))) (pe_op op_addU pe_int (pe_ix ix_seq (pv 0) pe_int (fun _ _ => rfl)))) pa_nil)) pe_int)) (pss_cons (ps_set (i := 4) nd rfl (Or.inl rfl) (pe_op op_addU (pe_op op_mod (pe_callTy call_int1 rfl T.g_int (by rfl) (pa_cons (pv 3) pa_nil)) pe_int) pe_int)) (pss_cons (ps_set (i := 5) nd rfl (Or.inl rfl) (pe_op op_mod (pe_callTy call_int1 rfl T.g_int (by rfl) (pa_cons (pe_op op_mulU (pe_op op_addU (pe_op op_addU (pv 3) (pe_ix ix_seq (pv 0) pe_int (fun _ _ => rfl))) (pe_op op_fdiv (pe_ix ix_seq (pv 0) pe_int (fun _ _ => rfl)) pe_int)) (pv 4)) pa_nil)) pe_int)) (pss_one (ps_ret (pe_op op_mod (pe_callTy call_int1 rfl T.g_int (by rfl) (pa_cons (pe_op op_fdiv (pe_op op_mod (pe_callTy call_int1 rfl T.g_int (by rfl) (pa_cons (pe_op op_addU (pe_op op_mulU (pv 5) pe_int) (pv 3)) pa_nil)) pe_int) pe_int) pa_nil)) (pv 1))))))))),
      fn_I (N := n__law_take) (as := [2, 3, 4, 5]) (f := b__law_take) 
      (ds_seq (ds_if (dt_test (dx_op od_B0 (dx_op od_ixSeq (dx_var 0) (dx_c fun _ => .int _)) (dx_c fun _ => .int _))) (ds_seq (ds_set 2 (by decide) (dx_op od_mod (dx_cb1 ud_int (dx_op od_ixSeq (dx_var 0) (dx_c fun _ => .int _))) (dx_var 1))) (ds_seq (ds_setIx 0 (dx_c fun _ => .int _) (dx_op od_fdiv (dx_op od_ixSeq (dx_var 0) (dx_c fun _ => .int _)) (dx_var 1))) (ds_ret (dx_var 2)))) ds_next) (ds_seq (ds_setIx 0 (dx_c fun _ => .int _) (dx_op od_addU (dx_op od_ixSeq (dx_var 0) (dx_c fun _ => .int _)) (dx_c fun _ => .int _))) (ds_seq (ds_set 3 (by decide) (dx_op od_mod (dx_cb1 ud_int (dx_op od_mulU (dx_op od_addU (dx_op od_ixSeq (dx_var 0) (dx_c fun _ => .int _)) (dx_op od_mulU (dx_c fun _ => .int _) (dx_op od_ixSeq (dx_var 0) (dx_c fun _ => .int _)))) (dx_op od_addU (dx_c fun _ => .int _) (dx_op od_ixSeq (dx_var 0) (dx_c fun _ => .int _))))) (dx_c fun _ => .int _))) (ds_seq (ds_set 4 (by decide) (dx_op od_addU (dx_op od_mod (dx_cb1 ud_int (dx_var 3)) (dx_c fun _ => .int _)) (dx_c fun _ => .int _))) (ds_seq (ds_set 5 (by decide) (dx_op od_mod (dx_cb1 ud_int (dx_op od_mulU (dx_op od_addU (dx_op od_addU (dx_var 3) (dx_op od_ixSeq (dx_var 0) (dx_c fun _ => .int _))) (dx_op od_fdiv (dx_op od_ixSeq (dx_var 0) (dx_c fun _ => .int _)) (dx_c fun _ => .int _))) (dx_var 4))) (dx_c fun _ => .int _))) (ds_ret (dx_op od_mod (dx_cb1 ud_int (dx_op od_fdiv (dx_op od_mod (dx_cb1 ud_int (dx_op od_addU (dx_op od_mulU (dx_var 5) (dx_c fun _ => .int _)) (dx_var 3))) (dx_c fun _ => .int _)) (dx_c fun _ => .int _))) (dx_var 1)))))))) (by decide) h⟩
theorem c__law_take (T : Tx K mg) : C8.Cal P w K mg base 1 "_law_take" (spI K 1 m__law_take) [] := by
  obtain ⟨fd, F, ok⟩ := o__law_take (P := P) (w := w) (base := base) T
  exact ⟨_, fd, ["_law_box_here", "_law_below"], [], ok, T.f__law_take, F.kp, F.bindsN fun _ _ _ _ _ _ us hl => match us, hl with | [_, _], _ => rfl, .nil⟩
/-! _law_of -/
def n__law_of : List Str := ["_law_box_here", "_law_some"]
theorem sc__law_of : FnScope n__law_of ["_law_box_here", "_law_some"] d__law_of.scope := ⟨rfl, rfl, rfl, by decide +kernel, rfl, by decide +kernel, by decide +kernel⟩
def b__law_of : Sv :=
    (sRet (sOp ixSeq (sVar 1) (sCallI 0 m__law_take (sCons (sUn lenD (sVar 1)) sNil))))
def m__law_of : D → List D → Option (Opd × D) := runI 2 b__law_of
theorem o__law_of (T : Tx K mg) : ∃ fd, FunD K "_law_of" "_law_of" d__law_of.params d__law_of.body d__law_of.scope [] [] (He.fAd K d__law_of.at_) fd ∧ FnOk P w K mg base CX0 2 (He.fAd K d__law_of.at_) fd ["_law_box_here", "_law_some"] (spI K 1 m__law_of) := by
  obtain ⟨fd, F⟩ := T.says.def_ 35 (d := d__law_of) rfl
  refine ⟨fd, F, F.ok (k := 1) sc__law_of (fun vs H Q E h => spI_len h) (fun cdv A outer s H vs Q E hr h => ?_)⟩
  have nd := sc__law_of.nd
  exact ⟨_, PSs.nox
      (pss_one (ps_ret (pe_ix ix_seq (pv 1) (C8.pe_c (c__law_take T) hr (by decide) rfl (pa_cons (pv 0) (pa_cons (pe_callB call_len rfl T.g_len (by rfl) (pa_cons (pv 1) pa_nil)) pa_nil))) (fun _ _ => rfl)))),
      fn_I (N := n__law_of) (as := []) (f := b__law_of) 
      (ds_ret (dx_op od_ixSeq (dx_var 1) (dx_callI (i := 0) (da_cons (dx_len (dx_var 1)) da_nil) (ln_cons ln_nil)))) (by decide) h⟩
theorem c__law_of (T : Tx K mg) : C8.Cal P w K mg base 2 "_law_of" (spI K 1 m__law_of) [] := by
  obtain ⟨fd, F, ok⟩ := o__law_of (P := P) (w := w) (base := base) T
  exact ⟨_, fd, ["_law_box_here", "_law_some"], [], ok, T.f__law_of, F.kp, F.bindsN fun _ _ _ _ _ _ us hl => match us, hl with | [_, _], _ => rfl, .nil⟩
/-! _law_sized -/
def n__law_sized : List Str := ["_law_box_here", "_law_most", "_law_top", "_law_below_so"]
theorem sc__law_sized : FnScope n__law_sized ["_law_box_here", "_law_most"] d__law_sized.scope := ⟨rfl, rfl, rfl, by decide +kernel, rfl, by decide +kernel, by decide +kernel⟩
def b__law_sized : Sv :=
    (sSeq (sPar 2 3 (sOp addU (sC (.int 1)) (sCallI 0 m__law_take (sCons (sVar 1) sNil))) (sCallI 0 m__law_of (sCons (sLst (sCons (sC (.int 1)) (sCons (sC (.int 1)) (sCons (sC (.int 1)) (sCons (sC (.int 2)) (sCons (sC (.int 3)) sNil)))))) sNil)))
    (sRet (sIf (sB (sOp eqO (sOp (iOp modI) (sUn intD (sVar 2)) (sVar 3)) (sC (.int 0)))) (sTup (sCons (sOp (iOp fdivI) (sVar 2) (sVar 3)) (sCons (sC (.int 1)) sNil))) (sTup (sCons (sVar 2) (sCons (sVar 3) sNil))))))
def m__law_sized : D → List D → Option (Opd × D) := runI 4 b__law_sized
theorem o__law_sized (T : Tx K mg) : ∃ fd, FunD K "_law_sized" "_law_sized" d__law_sized.params d__law_sized.body d__law_sized.scope [] [] (He.fAd K d__law_sized.at_) fd ∧ FnOk P w K mg base CX0 3 (He.fAd K d__law_sized.at_) fd ["_law_box_here", "_law_most"] (spI K 1 m__law_sized) := by
  obtain ⟨fd, F⟩ := T.says.def_ 37 (d := d__law_sized) rfl
  refine ⟨fd, F, F.ok (k := 2) sc__law_sized (fun vs H Q E h => spI_len h) (fun cdv A outer s H vs Q E hr h => ?_)⟩
  have nd := sc__law_sized.nd
  exact ⟨_, PSs.nox
      (pss_cons (ps_par (i := 2) (j := 3) rfl nd rfl rfl (by decide) rfl rfl (pa_cons (pe_op op_addU pe_int (C8.pe_c (c__law_take T) hr (by decide) rfl (pa_cons (pv 0) (pa_cons (pv 1) pa_nil)))) (pa_cons (C8.pe_c (c__law_of T) hr (by decide) rfl (pa_cons (pv 0) (pa_cons (pe_lst (pa_cons pe_int (pa_cons pe_int (pa_cons pe_int (pa_cons pe_int (pa_cons pe_int pa_nil)))))) pa_nil))) pa_nil)) (by rfl)) (pss_one (ps_ret (pe_ifExp (pt_cmpR (op_eqD hr.units) (pe_op op_mod (pe_callTy call_int1 rfl T.g_int (by rfl) (pa_cons (pv 2) pa_nil)) (pv 3)) pe_int (nomark _)) (pe_tupF (pa_cons (pe_op op_fdiv (pv 2) (pv 3)) (pa_cons pe_int pa_nil))) (pe_tupF (pa_cons (pv 2) (pa_cons (pv 3) pa_nil))))))),
      fn_I (N := n__law_sized) (as := [2, 3]) (f := b__law_sized) 
      (ds_seq (ds_par (i := 2) (j := 3) (by decide) (by decide) (dx_op od_addU (dx_c fun _ => .int _) (dx_callI (i := 0) (da_cons (dx_var 1) da_nil) (ln_cons ln_nil))) (dx_callI (i := 0) (da_cons (dx_lst (da_cons (dx_c fun _ => .int _) (da_cons (dx_c fun _ => .int _) (da_cons (dx_c fun _ => .int _) (da_cons (dx_c fun _ => .int _) (da_cons (dx_c fun _ => .int _) da_nil)))))) da_nil) (ln_cons ln_nil))) (ds_ret (dx_if (dt_test (dx_op od_eq (dx_op od_mod (dx_cb1 ud_int (dx_var 2)) (dx_var 3)) (dx_c fun _ => .int _))) (dx_tup (da_cons (dx_op od_fdiv (dx_var 2) (dx_var 3)) (da_cons (dx_c fun _ => .int _) da_nil))) (dx_tup (da_cons (dx_var 2) (da_cons (dx_var 3) da_nil)))))) (by decide) h⟩
theorem c__law_sized (T : Tx K mg) : C8.Cal P w K mg base 3 "_law_sized" (spI K 1 m__law_sized) [] := by
  obtain ⟨fd, F, ok⟩ := o__law_sized (P := P) (w := w) (base := base) T
  exact ⟨_, fd, ["_law_box_here", "_law_most"], [], ok, T.f__law_sized, F.kp, F.bindsN fun _ _ _ _ _ _ us hl => match us, hl with | [_, _], _ => rfl, .nil⟩
/-! _law_steps -/
def n__law_steps : List Str := ["_law_box_here", "_law_many", "_law_pool", "_law_found", "_law_lap"]
theorem sc__law_steps : FnScope n__law_steps ["_law_box_here", "_law_many"] d__law_steps.scope := ⟨rfl, rfl, rfl, by decide +kernel, rfl, by decide +kernel, by decide +kernel⟩
def b__law_steps : Sv :=
    (sSeq (sPar 2 3 (sLst (sCons (sC (.str "a")) (sCons (sC (.str "ab")) (sCons (sC (.str "b")) (sCons (sC (.str "c")) (sCons (sC (.str "d")) (sCons (sC (.str "e")) (sCons (sC (.str "f")) (sCons (sC (.str "k")) (sCons (sC (.str "z")) (sCons (sC (.str "zz")) sNil))))))))))) (sLst sNil))
    (sSeq (sFor (cRng1 (sCons (sVar 1) sNil)) (hName 4) (sExpr (sApp 3 (sTup (sCons (sPopAt 2 (sCallI 0 m__law_take (sCons (sUn lenD (sVar 2)) sNil))) (sCons (sCallI 0 m__law_sized (sCons (sOp addU (sVar 1) (sC (.int 2))) sNil)) sNil))))))
    (sRet (sUn tupleD (sUn sortO (sVar 3))))))
def m__law_steps : D → List D → Option (Opd × D) := runI 5 b__law_steps
theorem o__law_steps (T : Tx K mg) : ∃ fd, FunD K "_law_steps" "_law_steps" d__law_steps.params d__law_steps.body d__law_steps.scope [] [] (He.fAd K d__law_steps.at_) fd ∧ FnOk P w K mg base CX0 4 (He.fAd K d__law_steps.at_) fd ["_law_box_here", "_law_many"] (spI K 1 m__law_steps) := by
  obtain ⟨fd, F⟩ := T.says.def_ 38 (d := d__law_steps) rfl
  refine ⟨fd, F, F.ok (k := 3) sc__law_steps (fun vs H Q E h => spI_len h) (fun cdv A outer s H vs Q E hr h => ?_)⟩
  have nd := sc__law_steps.nd
  exact ⟨_, PSs.nox
      (pss_cons (ps_par (i := 2) (j := 3) rfl nd rfl rfl (by decide) rfl rfl (pa_cons (pe_lst (pa_cons pe_str (pa_cons pe_str (pa_cons pe_str (pa_cons pe_str (pa_cons pe_str (pa_cons pe_str (pa_cons pe_str (pa_cons pe_str (pa_cons pe_str (pa_cons pe_str pa_nil))))))))))) (pa_cons (pe_lst pa_nil) pa_nil)) (by rfl)) (pss_cons (ps_for PassesOwn.never rfl (pi_range1 rfl T.g_range (pa_cons (pv 1) pa_nil)) (pg_name (i := 4) nd rfl (Or.inl rfl)) (pss_one (ps_expr (pe_bm PySem.F.plainAttrs_list PySem.F.slot_list_append PySem.F.type_list_append mt_append (pv 3) (pa_cons (pe_tupF (pa_cons (pe_bm PySem.F.plainAttrs_list PySem.F.slot_list_pop PySem.F.type_list_pop mt_popAt (pv 2) (pa_cons (C8.pe_c (c__law_take T) hr (by decide) rfl (pa_cons (pv 0) (pa_cons (pe_callB call_len rfl T.g_len (by rfl) (pa_cons (pv 2) pa_nil)) pa_nil))) pa_nil)) (pa_cons (C8.pe_c (c__law_sized T) hr (by decide) rfl (pa_cons (pv 0) (pa_cons (pe_op op_addU (pv 1) pe_int) pa_nil))) pa_nil))) pa_nil))))) (pss_one (ps_ret (pe_callTy cr_tupF rfl T.g_tuple (by rfl) (pa_cons (pe_callB (cr_sortD hr.units) rfl T.g_sorted (by rfl) (pa_cons (pv 3) pa_nil)) pa_nil)))))),
      fn_I (N := n__law_steps) (as := [2, 3, 4]) (f := b__law_steps) 
      (ds_seq (ds_par (i := 2) (j := 3) (by decide) (by decide) (dx_lst (da_cons (dx_c fun _ => .str _) (da_cons (dx_c fun _ => .str _) (da_cons (dx_c fun _ => .str _) (da_cons (dx_c fun _ => .str _) (da_cons (dx_c fun _ => .str _) (da_cons (dx_c fun _ => .str _) (da_cons (dx_c fun _ => .str _) (da_cons (dx_c fun _ => .str _) (da_cons (dx_c fun _ => .str _) (da_cons (dx_c fun _ => .str _) da_nil))))))))))) (dx_lst da_nil)) (ds_seq (ds_for (by decide) (di_rng1 (da_cons (dx_var 1) da_nil)) (dg_name 4) (ds_expr (dx_app 3 (dx_tup (da_cons (dx_popAt 2 (dx_callI (i := 0) (da_cons (dx_len (dx_var 2)) da_nil) (ln_cons ln_nil))) (da_cons (dx_callI (i := 0) (da_cons (dx_op od_addU (dx_var 1) (dx_c fun _ => .int _)) da_nil) (ln_cons ln_nil)) da_nil)))))) (ds_ret (dx_cb1 ud_tuple (dx_cb1 ud_sort (dx_var 3)))))) (by decide) h⟩
theorem c__law_steps (T : Tx K mg) : C8.Cal P w K mg base 4 "_law_steps" (spI K 1 m__law_steps) [] := by
  obtain ⟨fd, F, ok⟩ := o__law_steps (P := P) (w := w) (base := base) T
  exact ⟨_, fd, ["_law_box_here", "_law_many"], [], ok, T.f__law_steps, F.kp, F.bindsN fun _ _ _ _ _ _ us hl => match us, hl with | [_, _], _ => rfl, .nil⟩
/-! _law_touching -/
def n__law_touching : List Str := ["_law_box_here", "_law_names", "_law_thick", "_law_found", "_law_k", "_law_mine", "_law_its"]
theorem sc__law_touching : FnScope n__law_touching ["_law_box_here", "_law_names", "_law_thick"] d__law_touching.scope := ⟨rfl, rfl, rfl, by decide +kernel, rfl, by decide +kernel, by decide +kernel⟩
def b__law_touching : Sv :=
    (sSeq (sSet 3 (sLst sNil))
    (sSeq (sFor (cEnum (sCons (sVar 1) sNil)) (hTup 2 (hCons (hName 4) (hCons (hName 5) hNil))) (sSet 3 (sOp addU (sVar 3) (sLc (cRel (sSlice (sVar 1) (sPart (sOp addU (sVar 4) (sC (.int 1)))) sNoPart)) [] [6] (hName 6) (sB (sOp ltU (sCallI 0 m__law_take (sCons (sC (.int 12)) sNil)) (sVar 2))) (sTup (sCons (sVar 5) (sCons (sVar 6) sNil)))))))
    (sRet (sUn tupleD (sVar 3)))))
def m__law_touching : D → List D → Option (Opd × D) := runI 7 b__law_touching
theorem o__law_touching (T : Tx K mg) : ∃ fd, FunD K "_law_touching" "_law_touching" d__law_touching.params d__law_touching.body d__law_touching.scope [] [] (He.fAd K d__law_touching.at_) fd ∧ FnOk P w K mg base CX0 2 (He.fAd K d__law_touching.at_) fd ["_law_box_here", "_law_names", "_law_thick"] (spI K 2 m__law_touching) := by
  obtain ⟨fd, F⟩ := T.says.def_ 39 (d := d__law_touching) rfl
  refine ⟨fd, F, F.ok (k := 1) sc__law_touching (fun vs H Q E h => spI_len h) (fun cdv A outer s H vs Q E hr h => ?_)⟩
  have nd := sc__law_touching.nd
  exact ⟨_, PSs.nox
      (pss_cons (ps_set (i := 3) nd rfl (Or.inl rfl) (pe_lst pa_nil)) (pss_cons (ps_for PassesOwn.never rfl (pi_enum rfl T.g_enumerate (pa_cons (pv 1) pa_nil)) (pg_tup rfl (pgs_cons (pg_name (i := 4) nd rfl (Or.inl rfl)) (pgs_cons (pg_name (i := 5) nd rfl (Or.inr rfl)) pgs_nil))) (pss_one (ps_set (i := 3) nd rfl (Or.inl rfl) (pe_op op_addU (pv 3) (pe_lc (own := [("_law_its", 6)]) rfl nd (pi_seq (pe_slice sl_U (pv 1) (po_some (pe_op op_addU (pv 4) pe_int)) po_none)) (blkOk_by (N := n__law_touching) (sc := d__law_touching.scope) (by decide +kernel)) (fun _ _ _ _ _ => (pg_name (i := 6) nd rfl (Or.inl rfl))) (fun _ _ _ _ _ => (pts_one (pt_cmpR op_ltU (C8.pe_c (c__law_take T) hr (by decide) rfl (pa_cons (pv 0) (pa_cons pe_int pa_nil))) (pv 2) (nomark _)))) (fun _ _ _ _ _ => (pe_tupF (pa_cons (pv 5) (pa_cons (pv 6) pa_nil))))))))) (pss_one (ps_ret (pe_callTy cr_tupF rfl T.g_tuple (by rfl) (pa_cons (pv 3) pa_nil)))))),
      fn_I (N := n__law_touching) (as := [3, 4, 5]) (f := b__law_touching) 
      (ds_seq (ds_set 3 (by decide) (dx_lst da_nil)) (ds_seq (ds_for (by decide) (di_enum (da_cons (dx_var 1) da_nil)) (dg_tup (dgs_cons (dg_name 4) (dgs_cons (dg_name 5) dgs_nil))) (ds_set 3 (by decide) (dx_op od_addU (dx_var 3) (dx_lc (ms := []) (vs := [6]) (di_rel (dx_slice (dx_var 1) (do_some (dx_op od_addU (dx_var 4) (dx_c fun _ => .int _))) do_none)) (dg_name 6) (by decide) (dt_test (dx_op od_ltU (dx_callI (i := 0) (da_cons (dx_c fun _ => .int _) da_nil) (ln_cons ln_nil)) (dx_var 2))) (dx_tup (da_cons (dx_var 5) (da_cons (dx_var 6) da_nil))))))) (ds_ret (dx_cb1 ud_tuple (dx_var 3))))) (by decide) h⟩
theorem c__law_touching (T : Tx K mg) : C8.Cal P w K mg base 2 "_law_touching" (spI K 2 m__law_touching) [] := by
  obtain ⟨fd, F, ok⟩ := o__law_touching (P := P) (w := w) (base := base) T
  exact ⟨_, fd, ["_law_box_here", "_law_names", "_law_thick"], [], ok, T.f__law_touching, F.kp, F.bindsN fun _ _ _ _ _ _ us hl => match us, hl with | [_, _, _], _ => rfl, .nil⟩
/-! _law_above -/
def n__law_above : List Str := ["_law_box_here", "_law_labels", "_law_shape", "_law_found", "_law_lap"]
theorem sc__law_above : FnScope n__law_above ["_law_box_here", "_law_labels", "_law_shape"] d__law_above.scope := ⟨rfl, rfl, rfl, by decide +kernel, rfl, by decide +kernel, by decide +kernel⟩
def b__law_above : Sv :=
    (sSeq (sIfS (sOr (sB (sOp eqO (sVar 1) (sLst sNil))) (sAnd (sB (sOp eqO (sVar 2) (sC (.int 2)))) (sB (sOp eqO (sCallI 0 m__law_take (sCons (sC (.int 6)) sNil)) (sC (.int 0)))))) (sRet (sTup sNil)) sNext)
    (sSeq (sIfS (sB (sOp eqO (sVar 2) (sC (.int 0)))) (sRet (sTup (sCons (sOp ixSeq (sVar 1) (sUn negD (sC (.int 1)))) sNil))) sNext)
    (sSeq (sSet 3 (sLc (cRng1 (sCons (sOp addU (sC (.int 1)) (sOp mulU (sUn intD (sOp eqO (sVar 2) (sC (.int 2)))) (sCallI 0 m__law_take (sCons (sC (.int 2)) sNil)))) sNil)) [] [4] (hName 4) sYes (sCallI 0 m__law_of (sCons (sSlice (sVar 1) (sPart (sUn negD (sC (.int 3)))) sNoPart) sNil))))
    (sRet (sUn tupleD (sUn sortSetO (sVar 3)))))))
def m__law_above : D → List D → Option (Opd × D) := runI 5 b__law_above
theorem o__law_above (T : Tx K mg) : ∃ fd, FunD K "_law_above" "_law_above" d__law_above.params d__law_above.body d__law_above.scope [] [] (He.fAd K d__law_above.at_) fd ∧ FnOk P w K mg base CX0 3 (He.fAd K d__law_above.at_) fd ["_law_box_here", "_law_labels", "_law_shape"] (spI K 2 m__law_above) := by
  obtain ⟨fd, F⟩ := T.says.def_ 40 (d := d__law_above) rfl
  refine ⟨fd, F, F.ok (k := 2) sc__law_above (fun vs H Q E h => spI_len h) (fun cdv A outer s H vs Q E hr h => ?_)⟩
  have nd := sc__law_above.nd
  exact ⟨_, PSs.nox
      (pss_cons (ps_if (PW.pt (pw_or (pt_cmpR (op_eqD hr.units) (pv 1) (pe_lst pa_nil) (nomark _)) (pw_or1 (PW.pt (pw_and (pt_cmpR (op_eqD hr.units) (pv 2) pe_int (nomark _)) (pw_and1 (pt_cmpR (op_eqD hr.units) (C8.pe_c (c__law_take T) hr (by decide) rfl (pa_cons (pv 0) (pa_cons pe_int pa_nil))) pe_int (nomark _)))))))) (pss_one (ps_ret (pe_tupF pa_nil))) pss_nil) (pss_cons (ps_if (pt_cmpR (op_eqD hr.units) (pv 2) pe_int (nomark _)) (pss_one (ps_ret (pe_tupF (pa_cons (pe_ix ix_seq (pv 1) (pe_un un_neg pe_int) (fun _ _ => rfl)) pa_nil)))) pss_nil) (pss_cons (ps_setLc (i := 3) (own := [("_law_lap", 4)]) rfl nd rfl rfl (sw_true rfl rfl rfl (by decide +kernel)) (pi_range1 rfl T.g_range (pa_cons (pe_op op_addU pe_int (pe_op op_mulU (pe_callTy call_int1 rfl T.g_int (by rfl) (pa_cons (pe_cmpR (op_eqD hr.units) (pv 2) pe_int (nomark _)) pa_nil)) (C8.pe_c (c__law_take T) hr (by decide) rfl (pa_cons (pv 0) (pa_cons pe_int pa_nil))))) pa_nil)) (blkOk_by (N := n__law_above) (sc := d__law_above.scope) (by decide +kernel)) (fun _ _ _ _ _ => (pg_name (i := 4) nd rfl (Or.inl rfl))) (fun _ _ _ _ _ => pts_nil) (fun _ _ _ _ _ => (C8.pe_c (c__law_of T) hr (by decide) rfl (pa_cons (pv 0) (pa_cons (pe_slice sl_U (pv 1) (po_some (pe_un un_neg pe_int)) po_none) pa_nil))))) (pss_one (ps_ret (pe_callTy cr_tupF rfl T.g_tuple (by rfl) (pa_cons (pe_callB (cr_sortTx rfl hr.units) rfl T.g_sorted (by rfl) (pa_cons (pe_callTy (cr_setTx rfl) rfl T.g_set (by rfl) (pa_cons (pv 3) pa_nil)) pa_nil)) pa_nil))))))),
      fn_I (N := n__law_above) (as := [3]) (f := b__law_above) 
      (ds_seq (ds_if (dt_or (dt_test (dx_op od_eq (dx_var 1) (dx_lst da_nil))) (dt_and (dt_test (dx_op od_eq (dx_var 2) (dx_c fun _ => .int _))) (dt_test (dx_op od_eq (dx_callI (i := 0) (da_cons (dx_c fun _ => .int _) da_nil) (ln_cons ln_nil)) (dx_c fun _ => .int _))))) (ds_ret (dx_tup da_nil)) ds_next) (ds_seq (ds_if (dt_test (dx_op od_eq (dx_var 2) (dx_c fun _ => .int _))) (ds_ret (dx_tup (da_cons (dx_op od_ixSeq (dx_var 1) (dx_un ud_neg (dx_c fun _ => .int _))) da_nil))) ds_next) (ds_seq (ds_set 3 (by decide) (dx_lc (ms := []) (vs := [4]) (di_rng1 (da_cons (dx_op od_addU (dx_c fun _ => .int _) (dx_op od_mulU (dx_cb1 ud_int (dx_op od_eq (dx_var 2) (dx_c fun _ => .int _))) (dx_callI (i := 0) (da_cons (dx_c fun _ => .int _) da_nil) (ln_cons ln_nil)))) da_nil)) (dg_name 4) (by decide) dt_yes (dx_callI (i := 0) (da_cons (dx_slice (dx_var 1) (do_some (dx_un ud_neg (dx_c fun _ => .int _))) do_none) da_nil) (ln_cons ln_nil)))) (ds_ret (dx_cb1 ud_tuple (dx_sortSet (dx_var 3))))))) (by decide) h⟩
theorem c__law_above (T : Tx K mg) : C8.Cal P w K mg base 3 "_law_above" (spI K 2 m__law_above) [] := by
  obtain ⟨fd, F, ok⟩ := o__law_above (P := P) (w := w) (base := base) T
  exact ⟨_, fd, ["_law_box_here", "_law_labels", "_law_shape"], [], ok, T.f__law_above, F.kp, F.bindsN fun _ _ _ _ _ _ us hl => match us, hl with | [_, _, _], _ => rfl, .nil⟩
/-! _law_commits -/
def n__law_commits : List Str := ["_law_box_here", "_law_names", "_law_many", "_law_shape", "_law_pool", "_law_rows", "_law_spots", "_law_k", "_law_label", "_law_above_here", "_law_name", "_law_entry", "_law_at_so"]
theorem sc__law_commits : FnScope n__law_commits ["_law_box_here", "_law_names", "_law_many", "_law_shape"] d__law_commits.scope := ⟨rfl, rfl, rfl, by decide +kernel, rfl, by decide +kernel, by decide +kernel⟩
def b__law_commits : Sv :=
    (sSeq (sPar 4 5 (sLst (sCons (sC (.str "a")) (sCons (sC (.str "m")) (sCons (sC (.str "n")) (sCons (sC (.str "one")) (sCons (sC (.str "q")) (sCons (sC (.str "two")) (sCons (sC (.str "x")) (sCons (sC (.str "y")) (sCons (sC (.str "top")) (sCons (sC (.str "zzz")) sNil))))))))))) (sLst sNil))
    (sSeq (sSet 6 (sLc (cRel (sVar 1)) [] [10] (hName 10) sYes (sTup (sCons (sCallI 0 m__law_take (sCons (sVar 2) sNil)) (sCons (sVar 10) sNil)))))
    (sSeq (sFor (cRng1 (sCons (sVar 2) sNil)) (hName 7) (sSeq (sSet 8 (sPopAt 4 (sCallI 0 m__law_take (sCons (sUn lenD (sVar 4)) sNil))))
    (sSeq (sSet 9 (sCallI 0 m__law_above (sCons (sLc (cPl 5) [5] [11] (hName 11) sYes (sOp ixSeq (sVar 11) (sC (.int 0)))) (sCons (sVar 3) sNil))))
    (sExpr (sApp 5 (sTup (sCons (sVar 8) (sCons (sVar 9) (sCons (sUn tupleD (sUn sortO (sLc (cRel (sVar 6)) [] [12, 10] (hTup 2 (hCons (hName 12) (hCons (hName 10) hNil))) (sB (sOp eqO (sVar 12) (sVar 7))) (sVar 10)))) sNil)))))))))
    (sRet (sUn tupleD (sVar 5))))))
def m__law_commits : D → List D → Option (Opd × D) := runI 13 b__law_commits
theorem o__law_commits (T : Tx K mg) : ∃ fd, FunD K "_law_commits" "_law_commits" d__law_commits.params d__law_commits.body d__law_commits.scope [] [] (He.fAd K d__law_commits.at_) fd ∧ FnOk P w K mg base CX0 4 (He.fAd K d__law_commits.at_) fd ["_law_box_here", "_law_names", "_law_many", "_law_shape"] (spI K 3 m__law_commits) := by
  obtain ⟨fd, F⟩ := T.says.def_ 41 (d := d__law_commits) rfl
  refine ⟨fd, F, F.ok (k := 3) sc__law_commits (fun vs H Q E h => spI_len h) (fun cdv A outer s H vs Q E hr h => ?_)⟩
  have nd := sc__law_commits.nd
  exact ⟨_, PSs.nox
      (pss_cons (ps_par (i := 4) (j := 5) rfl nd rfl rfl (by decide) rfl rfl (pa_cons (pe_lst (pa_cons pe_str (pa_cons pe_str (pa_cons pe_str (pa_cons pe_str (pa_cons pe_str (pa_cons pe_str (pa_cons pe_str (pa_cons pe_str (pa_cons pe_str (pa_cons pe_str pa_nil))))))))))) (pa_cons (pe_lst pa_nil) pa_nil)) (by rfl)) (pss_cons (ps_setLc (i := 6) (own := [("_law_name", 10)]) rfl nd rfl rfl (sw_true rfl rfl rfl (by decide +kernel)) (pi_seq (pv 1)) (blkOk_by (N := n__law_commits) (sc := d__law_commits.scope) (by decide +kernel)) (fun _ _ _ _ _ => (pg_name (i := 10) nd rfl (Or.inl rfl))) (fun _ _ _ _ _ => pts_nil) (fun _ _ _ _ _ => (pe_tupF (pa_cons (C8.pe_c (c__law_take T) hr (by decide) rfl (pa_cons (pv 0) (pa_cons (pv 2) pa_nil))) (pa_cons (pv 10) pa_nil))))) (pss_cons (ps_for PassesOwn.never rfl (pi_range1 rfl T.g_range (pa_cons (pv 2) pa_nil)) (pg_name (i := 7) nd rfl (Or.inr rfl)) (pss_cons (ps_set (i := 8) nd rfl (Or.inl rfl) (pe_bm PySem.F.plainAttrs_list PySem.F.slot_list_pop PySem.F.type_list_pop mt_popAt (pv 4) (pa_cons (C8.pe_c (c__law_take T) hr (by decide) rfl (pa_cons (pv 0) (pa_cons (pe_callB call_len rfl T.g_len (by rfl) (pa_cons (pv 4) pa_nil)) pa_nil))) pa_nil))) (pss_cons (ps_set (i := 9) nd rfl (Or.inl rfl) (C8.pe_c (c__law_above T) hr (by decide) rfl (pa_cons (pv 0) (pa_cons (pe_lc (own := [("_law_entry", 11)]) rfl nd (pi_seq (pv 5)) (blkOk_by (N := n__law_commits) (sc := d__law_commits.scope) (by decide +kernel)) (fun _ _ _ _ _ => (pg_name (i := 11) nd rfl (Or.inl rfl))) (fun _ _ _ _ _ => pts_nil) (fun _ _ _ _ _ => (pe_ix ix_seq (pv 11) pe_int (fun _ _ => rfl)))) (pa_cons (pv 3) pa_nil))))) (pss_one (ps_expr (pe_bm PySem.F.plainAttrs_list PySem.F.slot_list_append PySem.F.type_list_append mt_append (pv 5) (pa_cons (pe_tupF (pa_cons (pv 8) (pa_cons (pv 9) (pa_cons (pe_callTy cr_tupF rfl T.g_tuple (by rfl) (pa_cons (pe_callB (cr_sortD hr.units) rfl T.g_sorted (by rfl) (pa_cons (pe_lc (own := [("_law_at_so", 12), ("_law_name", 10)]) rfl nd (pi_seq (pv 6)) (blkOk_by (N := n__law_commits) (sc := d__law_commits.scope) (by decide +kernel)) (fun _ _ _ _ _ => (pg_tup rfl (pgs_cons (pg_name (i := 12) nd rfl (Or.inl rfl)) (pgs_cons (pg_name (i := 10) nd rfl (Or.inl rfl)) pgs_nil)))) (fun _ _ _ _ _ => (pts_one (pt_cmpR (op_eqD hr.units) (pv 12) (pv 7) (nomark _)))) (fun _ _ _ _ _ => (pv 10))) pa_nil)) pa_nil)) pa_nil)))) pa_nil))))))) (pss_one (ps_ret (pe_callTy cr_tupF rfl T.g_tuple (by rfl) (pa_cons (pv 5) pa_nil))))))),
      fn_I (N := n__law_commits) (as := [4, 5, 6, 7, 8, 9]) (f := b__law_commits) 
      (ds_seq (ds_par (i := 4) (j := 5) (by decide) (by decide) (dx_lst (da_cons (dx_c fun _ => .str _) (da_cons (dx_c fun _ => .str _) (da_cons (dx_c fun _ => .str _) (da_cons (dx_c fun _ => .str _) (da_cons (dx_c fun _ => .str _) (da_cons (dx_c fun _ => .str _) (da_cons (dx_c fun _ => .str _) (da_cons (dx_c fun _ => .str _) (da_cons (dx_c fun _ => .str _) (da_cons (dx_c fun _ => .str _) da_nil))))))))))) (dx_lst da_nil)) (ds_seq (ds_set 6 (by decide) (dx_lc (ms := []) (vs := [10]) (di_rel (dx_var 1)) (dg_name 10) (by decide) dt_yes (dx_tup (da_cons (dx_callI (i := 0) (da_cons (dx_var 2) da_nil) (ln_cons ln_nil)) (da_cons (dx_var 10) da_nil))))) (ds_seq (ds_for (by decide) (di_rng1 (da_cons (dx_var 2) da_nil)) (dg_name 7) (ds_seq (ds_set 8 (by decide) (dx_popAt 4 (dx_callI (i := 0) (da_cons (dx_len (dx_var 4)) da_nil) (ln_cons ln_nil)))) (ds_seq (ds_set 9 (by decide) (dx_callI (i := 0) (da_cons (dx_lc (ms := [5]) (vs := [11]) (di_pl 5) (dg_name 11) (by decide) dt_yes (dx_op od_ixSeq (dx_var 11) (dx_c fun _ => .int _))) (da_cons (dx_var 3) da_nil)) (ln_cons (ln_cons ln_nil)))) (ds_expr (dx_app 5 (dx_tup (da_cons (dx_var 8) (da_cons (dx_var 9) (da_cons (dx_cb1 ud_tuple (dx_cb1 ud_sort (dx_lc (ms := []) (vs := [12, 10]) (di_rel (dx_var 6)) (dg_tup (dgs_cons (dg_name 12) (dgs_cons (dg_name 10) dgs_nil))) (by decide) (dt_test (dx_op od_eq (dx_var 12) (dx_var 7))) (dx_var 10)))) da_nil))))))))) (ds_ret (dx_cb1 ud_tuple (dx_var 5)))))) (by decide) h⟩
theorem c__law_commits (T : Tx K mg) : C8.Cal P w K mg base 4 "_law_commits" (spI K 3 m__law_commits) [] := by
  obtain ⟨fd, F, ok⟩ := o__law_commits (P := P) (w := w) (base := base) T
  exact ⟨_, fd, ["_law_box_here", "_law_names", "_law_many", "_law_shape"], [], ok, T.f__law_commits, F.kp, F.bindsN fun _ _ _ _ _ _ us hl => match us, hl with | [_, _, _, _], _ => rfl, .nil⟩
/-! _law_plan -/
def n__law_plan : List Str := ["_law_box_here", "_law_many", "_law_commits_so", "_law_thick", "_law_shape", "_law_steps_so", "_law_names", "_law_name", "_law_size"]
theorem sc__law_plan : FnScope n__law_plan ["_law_box_here", "_law_many", "_law_commits_so", "_law_thick", "_law_shape"] d__law_plan.scope := ⟨rfl, rfl, rfl, by decide +kernel, rfl, by decide +kernel, by decide +kernel⟩
def b__law_plan : Sv :=
    (sSeq (sSet 5 (sCallI 0 m__law_steps (sCons (sVar 1) sNil)))
    (sSeq (sSet 6 (sLc (cRel (sVar 5)) [] [7, 8] (hTup 2 (hCons (hName 7) (hCons (hName 8) hNil))) sYes (sVar 7)))
    (sRet (sTup (sCons (sVar 5) (sCons (sCallI 0 m__law_touching (sCons (sVar 6) (sCons (sVar 3) sNil))) (sCons (sCallI 0 m__law_commits (sCons (sVar 6) (sCons (sVar 2) (sCons (sVar 4) sNil)))) sNil)))))))
def m__law_plan : D → List D → Option (Opd × D) := runI 9 b__law_plan
theorem o__law_plan (T : Tx K mg) : ∃ fd, FunD K "_law_plan" "_law_plan" d__law_plan.params d__law_plan.body d__law_plan.scope [] [] (He.fAd K d__law_plan.at_) fd ∧ FnOk P w K mg base CX0 5 (He.fAd K d__law_plan.at_) fd ["_law_box_here", "_law_many", "_law_commits_so", "_law_thick", "_law_shape"] (spI K 4 m__law_plan) := by
  obtain ⟨fd, F⟩ := T.says.def_ 42 (d := d__law_plan) rfl
  refine ⟨fd, F, F.ok (k := 4) sc__law_plan (fun vs H Q E h => spI_len h) (fun cdv A outer s H vs Q E hr h => ?_)⟩
  have nd := sc__law_plan.nd
  exact ⟨_, PSs.nox
      (pss_cons (ps_set (i := 5) nd rfl (Or.inl rfl) (C8.pe_c (c__law_steps T) hr (by decide) rfl (pa_cons (pv 0) (pa_cons (pv 1) pa_nil)))) (pss_cons (ps_setLc (i := 6) (own := [("_law_name", 7), ("_law_size", 8)]) rfl nd rfl rfl (sw_true rfl rfl rfl (by decide +kernel)) (pi_seq (pv 5)) (blkOk_by (N := n__law_plan) (sc := d__law_plan.scope) (by decide +kernel)) (fun _ _ _ _ _ => (pg_tup rfl (pgs_cons (pg_name (i := 7) nd rfl (Or.inl rfl)) (pgs_cons (pg_name (i := 8) nd rfl (Or.inl rfl)) pgs_nil)))) (fun _ _ _ _ _ => pts_nil) (fun _ _ _ _ _ => (pv 7))) (pss_one (ps_ret (pe_tupF (pa_cons (pv 5) (pa_cons (C8.pe_c (c__law_touching T) hr (by decide) rfl (pa_cons (pv 0) (pa_cons (pv 6) (pa_cons (pv 3) pa_nil)))) (pa_cons (C8.pe_c (c__law_commits T) hr (by decide) rfl (pa_cons (pv 0) (pa_cons (pv 6) (pa_cons (pv 2) (pa_cons (pv 4) pa_nil))))) pa_nil)))))))),
      fn_I (N := n__law_plan) (as := [5, 6]) (f := b__law_plan) 
      (ds_seq (ds_set 5 (by decide) (dx_callI (i := 0) (da_cons (dx_var 1) da_nil) (ln_cons ln_nil))) (ds_seq (ds_set 6 (by decide) (dx_lc (ms := []) (vs := [7, 8]) (di_rel (dx_var 5)) (dg_tup (dgs_cons (dg_name 7) (dgs_cons (dg_name 8) dgs_nil))) (by decide) dt_yes (dx_var 7))) (ds_ret (dx_tup (da_cons (dx_var 5) (da_cons (dx_callI (i := 0) (da_cons (dx_var 6) (da_cons (dx_var 3) da_nil)) (ln_cons (ln_cons ln_nil))) (da_cons (dx_callI (i := 0) (da_cons (dx_var 6) (da_cons (dx_var 2) (da_cons (dx_var 4) da_nil))) (ln_cons (ln_cons (ln_cons ln_nil)))) da_nil))))))) (by decide) h⟩
theorem c__law_plan (T : Tx K mg) : C8.Cal P w K mg base 5 "_law_plan" (spI K 4 m__law_plan) [] := by
  obtain ⟨fd, F, ok⟩ := o__law_plan (P := P) (w := w) (base := base) T
  exact ⟨_, fd, ["_law_box_here", "_law_many", "_law_commits_so", "_law_thick", "_law_shape"], [], ok, T.f__law_plan, F.kp, F.bindsN fun _ _ _ _ _ _ us hl => match us, hl with | [_, _, _, _, _], _ => rfl, .nil⟩
/-! _law_facts -/
def n__law_facts : List Str := ["_law_plan_so", "_law_known_so", "_law_ahead_so", "_law_label", "_law_above_here", "_law_new_so", "_law_some", "_law_back", "_law_parent"]
theorem sc__law_facts : FnScope n__law_facts ["_law_plan_so"] d__law_facts.scope := ⟨rfl, rfl, rfl, by decide +kernel, rfl, by decide +kernel, by decide +kernel⟩
def b__law_facts : Sv :=
    (sSeq (sPar 1 2 sNewD sNewD)
    (sSeq (sFor (cRel (sOp ixSeq (sVar 0) (sC (.int 2)))) (hTup 3 (hCons (hName 3) (hCons (hName 4) (hCons (hName 5) hNil)))) (sSeq (sPar 6 7 (sUn listD (sVar 5)) (sUn listD (sVar 4)))
    (sSeq (sFor (cRel (sVar 4)) (hName 8) (sPar 6 7 (sOp addU (sVar 6) (sOp ixDic (sVar 1) (sVar 8))) (sOp addU (sVar 7) (sOp ixDic (sVar 2) (sVar 8)))))
    (sAsg (sTup (sCons (sUn sortSetO (sVar 6)) (sCons (sUn sortSetO (sVar 7)) sNil))) (hTup 2 (hCons (hSub 1 (sVar 3)) (hCons (hSub 2 (sVar 3)) hNil)))))))
    (sRet (sTup (sCons (sVar 1) (sCons (sVar 2) sNil))))))
def m__law_facts : List D → Option Opd := runP 9 b__law_facts
theorem o__law_facts (T : Tx K mg) : ∃ fd, FunD K "_law_facts" "_law_facts" d__law_facts.params d__law_facts.body d__law_facts.scope [] [] (He.fAd K d__law_facts.at_) fd ∧ FnOk P w K mg base CX0 1 (He.fAd K d__law_facts.at_) fd ["_law_plan_so"] (spP K 1 m__law_facts) := by
  obtain ⟨fd, F⟩ := T.says.def_ 43 (d := d__law_facts) rfl
  refine ⟨fd, F, F.ok (k := 0) sc__law_facts (fun vs H Q E h => spP_len h) (fun cdv A outer s H vs Q E hr h => ?_)⟩
  have nd := sc__law_facts.nd
  exact ⟨_, PSs.nox
      (pss_cons (ps_par (i := 1) (j := 2) rfl nd rfl rfl (by decide) rfl rfl (pa_cons pe_dnewK (pa_cons pe_dnewK pa_nil)) (by rfl)) (pss_cons (ps_for PassesOwn.never rfl (pi_seq (pe_ix ix_seq (pv 0) pe_int (fun _ _ => rfl))) (pg_tup rfl (pgs_cons (pg_name (i := 3) nd rfl (Or.inl rfl)) (pgs_cons (pg_name (i := 4) nd rfl (Or.inl rfl)) (pgs_cons (pg_name (i := 5) nd rfl (Or.inl rfl)) pgs_nil)))) (pss_cons (ps_par (i := 6) (j := 7) rfl nd rfl rfl (by decide) rfl rfl (pa_cons (pe_callTy call_list_of rfl T.g_list (by rfl) (pa_cons (pv 5) pa_nil)) (pa_cons (pe_callTy call_list_of rfl T.g_list (by rfl) (pa_cons (pv 4) pa_nil)) pa_nil)) (by rfl)) (pss_cons (ps_for PassesOwn.never rfl (pi_seq (pv 4)) (pg_name (i := 8) nd rfl (Or.inl rfl)) (pss_one (ps_par (i := 6) (j := 7) rfl nd rfl rfl (by decide) rfl rfl (pa_cons (pe_op op_addU (pv 6) (pe_dget (hu_of hr) (pv 1) (pv 8) (fun _ _ => rfl))) (pa_cons (pe_op op_addU (pv 7) (pe_dget (hu_of hr) (pv 2) (pv 8) (fun _ _ => rfl))) pa_nil)) (by rfl)))) (pss_one (ps_asg (pe_tupF (pa_cons (pe_callB (cr_sortTx rfl hr.units) rfl T.g_sorted (by rfl) (pa_cons (pe_callTy (cr_setTx rfl) rfl T.g_set (by rfl) (pa_cons (pv 6) pa_nil)) pa_nil)) (pa_cons (pe_callB (cr_sortTx rfl hr.units) rfl T.g_sorted (by rfl) (pa_cons (pe_callTy (cr_setTx rfl) rfl T.g_set (by rfl) (pa_cons (pv 7) pa_nil)) pa_nil)) pa_nil))) (pg_tup rfl (pgs_cons (pg_sub (pv 1) (pv 3) (set_dict (hu_of hr))) (pgs_cons (pg_sub (pv 2) (pv 3) (set_dict (hu_of hr))) pgs_nil)))))))) (pss_one (ps_ret (pe_tupF (pa_cons (pv 1) (pa_cons (pv 2) pa_nil))))))),
      fn_P (N := n__law_facts) (as := [1, 2, 3, 4, 5, 6, 7, 8]) (f := b__law_facts)
      (ds_seq (ds_par (i := 1) (j := 2) (by decide) (by decide) dx_newD dx_newD) (ds_seq (ds_for (by decide) (di_rel (dx_op od_ixSeq (dx_var 0) (dx_c fun _ => .int _))) (dg_tup (dgs_cons (dg_name 3) (dgs_cons (dg_name 4) (dgs_cons (dg_name 5) dgs_nil)))) (ds_seq (ds_par (i := 6) (j := 7) (by decide) (by decide) (dx_cb1 ud_list (dx_var 5)) (dx_cb1 ud_list (dx_var 4))) (ds_seq (ds_for (by decide) (di_rel (dx_var 4)) (dg_name 8) (ds_par (i := 6) (j := 7) (by decide) (by decide) (dx_op od_addU (dx_var 6) (dx_dget (dx_var 1) (dx_var 8))) (dx_op od_addU (dx_var 7) (dx_dget (dx_var 2) (dx_var 8))))) (ds_asg (by decide) (dx_tup (da_cons (dx_sortSet (dx_var 6)) (da_cons (dx_sortSet (dx_var 7)) da_nil))) (dg_tup (dgs_cons (dg_sub 1 (dx_var 3)) (dgs_cons (dg_sub 2 (dx_var 3)) dgs_nil))))))) (ds_ret (dx_tup (da_cons (dx_var 1) (da_cons (dx_var 2) da_nil)))))) h⟩
theorem c__law_facts (T : Tx K mg) : C8.Cal P w K mg base 1 "_law_facts" (spP K 1 m__law_facts) [] := by
  obtain ⟨fd, F, ok⟩ := o__law_facts (P := P) (w := w) (base := base) T
  exact ⟨_, fd, ["_law_plan_so"], [], ok, T.f__law_facts, F.kp, F.bindsN fun _ _ _ _ _ _ us hl => match us, hl with | [_], _ => rfl, .nil⟩
/-! _law_calls -/
def n__law_calls : List Str := ["_law_box_here", "_law_plan_so", "_law_many", "_law_along", "_law_labels", "_law_ahead_so", "_law_found", "_law_lap", "_law_free", "_law_entry", "_law_own"]
theorem sc__law_calls : FnScope n__law_calls ["_law_box_here", "_law_plan_so", "_law_many", "_law_along"] d__law_calls.scope := ⟨rfl, rfl, rfl, by decide +kernel, rfl, by decide +kernel, by decide +kernel⟩
def b__law_calls : Sv :=
    (sSeq (sParN [4, 5, 6] (oCons (sLc (cRel (sOp ixSeq (sVar 1) (sC (.int 2)))) [] [9] (hName 9) sYes (sOp ixSeq (sVar 9) (sC (.int 0)))) (oCons (sOp ixSeq (sCall m__law_facts (sCons (sVar 1) sNil)) (sC (.int 1))) (oCons (sLst sNil) oNil))))
    (sSeq (sFor (cRng1 (sCons (sVar 2) sNil)) (hName 7) (sSeq (sSet 8 (sVar 4))
    (sSeq (sIfS (sAnd (sB (sVar 3)) (sB (sOp neO (sVar 6) (sLst sNil)))) (sSet 8 (sLc (cRel (sVar 4)) [] [10] (hName 10) (sOr (sB (sOp eqO (sVar 10) (sOp ixSeq (sVar 6) (sUn negD (sC (.int 1)))))) (sB (sOp inU (sOp ixSeq (sVar 6) (sUn negD (sC (.int 1)))) (sOp ixDic (sVar 5) (sVar 10))))) (sVar 10))) sNext)
    (sExpr (sApp 6 (sCallI 0 m__law_of (sCons (sVar 8) sNil)))))))
    (sRet (sUn tupleD (sVar 6)))))
def m__law_calls : D → List D → Option (Opd × D) := runI 11 b__law_calls
theorem o__law_calls (T : Tx K mg) : ∃ fd, FunD K "_law_calls" "_law_calls" d__law_calls.params d__law_calls.body d__law_calls.scope [] [] (He.fAd K d__law_calls.at_) fd ∧ FnOk P w K mg base CX0 3 (He.fAd K d__law_calls.at_) fd ["_law_box_here", "_law_plan_so", "_law_many", "_law_along"] (spI K 3 m__law_calls) := by
  obtain ⟨fd, F⟩ := T.says.def_ 44 (d := d__law_calls) rfl
  refine ⟨fd, F, F.ok (k := 2) sc__law_calls (fun vs H Q E h => spI_len h) (fun cdv A outer s H vs Q E hr h => ?_)⟩
  have nd := sc__law_calls.nd
  exact ⟨_, PSs.nox
      (pss_cons (ps_asg (pe_tupF (pa_cons (pe_lc (own := [("_law_entry", 9)]) rfl nd (pi_seq (pe_ix ix_seq (pv 1) pe_int (fun _ _ => rfl))) (blkOk_by (N := n__law_calls) (sc := d__law_calls.scope) (by decide +kernel)) (fun _ _ _ _ _ => (pg_name (i := 9) nd rfl (Or.inl rfl))) (fun _ _ _ _ _ => pts_nil) (fun _ _ _ _ _ => (pe_ix ix_seq (pv 9) pe_int (fun _ _ => rfl)))) (pa_cons (pe_ix ix_seq (C8.pe_c (c__law_facts T) hr (by decide) rfl (pa_cons (pv 1) pa_nil)) pe_int (fun _ _ => rfl)) (pa_cons (pe_lst pa_nil) pa_nil)))) (pg_tup rfl (pgs_cons (pg_name (i := 4) nd rfl (Or.inl rfl)) (pgs_cons (pg_name (i := 5) nd rfl (Or.inr rfl)) (pgs_cons (pg_name (i := 6) nd rfl (Or.inr rfl)) pgs_nil))))) (pss_cons (ps_for PassesOwn.never rfl (pi_range1 rfl T.g_range (pa_cons (pv 2) pa_nil)) (pg_name (i := 7) nd rfl (Or.inl rfl)) (pss_cons (ps_set (i := 8) nd rfl (Or.inl rfl) (pv 4)) (pss_cons (ps_if (PW.pt (pw_and (pt_val (pv 3)) (pw_and1 (pt_cmpR (op_neD hr.units) (pv 6) (pe_lst pa_nil) (nomark _))))) (pss_one (ps_setLc (i := 8) (own := [("_law_own", 10)]) rfl nd rfl rfl (sw_true rfl rfl rfl (by decide +kernel)) (pi_seq (pv 4)) (blkOk_by (N := n__law_calls) (sc := d__law_calls.scope) (by decide +kernel)) (fun _ _ _ _ _ => (pg_name (i := 10) nd rfl (Or.inl rfl))) (fun _ _ _ _ _ => (pts_one (PW.pt (pw_or (pt_cmpR (op_eqD hr.units) (pv 10) (pe_ix ix_seq (pv 6) (pe_un un_neg pe_int) (fun _ _ => rfl)) (nomark _)) (pw_or1 (pt_cmpR op_inU (pe_ix ix_seq (pv 6) (pe_un un_neg pe_int) (fun _ _ => rfl)) (pe_dget (hu_of hr) (pv 5) (pv 10) (fun _ _ => rfl)) (by rfl))))))) (fun _ _ _ _ _ => (pv 10)))) pss_nil) (pss_one (ps_expr (pe_bm PySem.F.plainAttrs_list PySem.F.slot_list_append PySem.F.type_list_append mt_append (pv 6) (pa_cons (C8.pe_c (c__law_of T) hr (by decide) rfl (pa_cons (pv 0) (pa_cons (pv 8) pa_nil))) pa_nil))))))) (pss_one (ps_ret (pe_callTy cr_tupF rfl T.g_tuple (by rfl) (pa_cons (pv 6) pa_nil)))))),
      fn_I (N := n__law_calls) (as := [4, 5, 6, 7, 8]) (f := b__law_calls) 
      (ds_seq (ds_parN [4, 5, 6] rfl (by decide) (dao_cons (dx_lc (ms := []) (vs := [9]) (di_rel (dx_op od_ixSeq (dx_var 1) (dx_c fun _ => .int _))) (dg_name 9) (by decide) dt_yes (dx_op od_ixSeq (dx_var 9) (dx_c fun _ => .int _))) (dao_cons (dx_op od_ixSeq (dx_call (da_cons (dx_var 1) da_nil) (ln_cons ln_nil)) (dx_c fun _ => .int _)) (dao_cons (dx_lst da_nil) dao_nil)))) (ds_seq (ds_for (by decide) (di_rng1 (da_cons (dx_var 2) da_nil)) (dg_name 7) (ds_seq (ds_set 8 (by decide) (dx_var 4)) (ds_seq (ds_if (dt_and (dt_B (dx_var 3)) (dt_test (dx_op od_ne (dx_var 6) (dx_lst da_nil)))) (ds_set 8 (by decide) (dx_lc (ms := []) (vs := [10]) (di_rel (dx_var 4)) (dg_name 10) (by decide) (dt_or (dt_test (dx_op od_eq (dx_var 10) (dx_op od_ixSeq (dx_var 6) (dx_un ud_neg (dx_c fun _ => .int _))))) (dt_test (dx_op od_inU (dx_op od_ixSeq (dx_var 6) (dx_un ud_neg (dx_c fun _ => .int _))) (dx_dget (dx_var 5) (dx_var 10))))) (dx_var 10))) ds_next) (ds_expr (dx_app 6 (dx_callI (i := 0) (da_cons (dx_var 8) da_nil) (ln_cons ln_nil))))))) (ds_ret (dx_cb1 ud_tuple (dx_var 6))))) (by decide) h⟩
theorem c__law_calls (T : Tx K mg) : C8.Cal P w K mg base 3 "_law_calls" (spI K 3 m__law_calls) [] := by
  obtain ⟨fd, F, ok⟩ := o__law_calls (P := P) (w := w) (base := base) T
  exact ⟨_, fd, ["_law_box_here", "_law_plan_so", "_law_many", "_law_along"], [], ok, T.f__law_calls, F.kp, F.bindsN fun _ _ _ _ _ _ us hl => match us, hl with | [_, _, _, _], _ => rfl, .nil⟩
/-! Plan.commits -/
def n_Plan_commits : List Str := ["self"]
theorem sc_Plan_commits : FnScope n_Plan_commits ["self"] d_Plan_commits.scope := ⟨rfl, rfl, rfl, by decide +kernel, rfl, by decide +kernel, by decide +kernel⟩
def b_Plan_commits : Sv :=
    (sRet (sUn listDicO (sUn (fldO "Plan" 4) (sVar 0))))
def m_Plan_commits : List D → Option Opd := runP 1 b_Plan_commits
theorem o_Plan_commits (T : Tx K mg) : ∃ fd, FunD K "commits" "Plan.commits" d_Plan_commits.params d_Plan_commits.body d_Plan_commits.scope [] [] (He.fAd K d_Plan_commits.at_) fd ∧ FnOk P w K mg base CX0 1 (He.fAd K d_Plan_commits.at_) fd ["self"] (spP K 1 m_Plan_commits) := by
  obtain ⟨fd, F⟩ := T.says.def_ 5 (d := d_Plan_commits) rfl
  refine ⟨fd, F, F.ok (k := 0) sc_Plan_commits (fun vs H Q E h => spP_len h) (fun cdv A outer s H vs Q E hr h => ?_)⟩
  have nd := sc_Plan_commits.nd
  exact ⟨_, PSs.nox
      (pss_one (ps_ret (pe_callTy (call_list_dK rfl) rfl T.g_list (by rfl) (pa_cons (SlX.pe_sl (pv 0)) pa_nil)))),
      fn_P (N := n_Plan_commits) (as := []) (f := b_Plan_commits)
      (ds_ret (dx_cb1 ud_listD (dx_fld T.k_Plan T.s_Plan_own_parents (dx_var 0)))) h⟩
theorem r_Plan_commits (T : Tx K mg) : FnR P w K mg base CX0 1 (He.fAd K d_Plan_commits.at_) (spP K 1 m_Plan_commits) := by
  obtain ⟨fd, F, ok⟩ := o_Plan_commits (P := P) (w := w) (base := base) T
  exact fnR_of ok (F.bindsN fun _ _ _ _ _ _ us hl => match us, hl with | [_], _ => rfl)
/-! Plan.knows -/
def n_Plan_knows : List Str := ["self", "commit", "step"]
theorem sc_Plan_knows : FnScope n_Plan_knows ["self", "commit", "step"] d_Plan_knows.scope := ⟨rfl, rfl, rfl, by decide +kernel, rfl, by decide +kernel, by decide +kernel⟩
def b_Plan_knows : Sv :=
    (sRet (sOp (inDic false) (sVar 2) (sOp ixDic (sUn (fldO "Plan" 2) (sVar 0)) (sVar 1))))
def m_Plan_knows : List D → Option Opd := runP 3 b_Plan_knows
theorem o_Plan_knows (T : Tx K mg) : ∃ fd, FunD K "knows" "Plan.knows" d_Plan_knows.params d_Plan_knows.body d_Plan_knows.scope [] [] (He.fAd K d_Plan_knows.at_) fd ∧ FnOk P w K mg base CX0 1 (He.fAd K d_Plan_knows.at_) fd ["self", "commit", "step"] (spP K 3 m_Plan_knows) := by
  obtain ⟨fd, F⟩ := T.says.def_ 9 (d := d_Plan_knows) rfl
  refine ⟨fd, F, F.ok (k := 0) sc_Plan_knows (fun vs H Q E h => spP_len h) (fun cdv A outer s H vs Q E hr h => ?_)⟩
  have nd := sc_Plan_knows.nd
  exact ⟨_, PSs.nox
      (pss_one (ps_ret (pe_cmp (pc_din (hu_of hr) (pv 2) (pe_dget (hu_of hr) (SlX.pe_sl (pv 0)) (pv 1) (fun _ _ => rfl)))))),
      fn_P (N := n_Plan_knows) (as := []) (f := b_Plan_knows)
      (ds_ret (dx_din (dx_var 2) (dx_dget (dx_fld T.k_Plan T.s_Plan_own_known (dx_var 0)) (dx_var 1)))) h⟩
theorem r_Plan_knows (T : Tx K mg) : FnR P w K mg base CX0 1 (He.fAd K d_Plan_knows.at_) (spP K 3 m_Plan_knows) := by
  obtain ⟨fd, F, ok⟩ := o_Plan_knows (P := P) (w := w) (base := base) T
  exact fnR_of ok (F.bindsN fun _ _ _ _ _ _ us hl => match us, hl with | [_, _, _], _ => rfl)
/-! Plan.is_behind -/
def n_Plan_is_behind : List Str := ["self", "one", "other"]
theorem sc_Plan_is_behind : FnScope n_Plan_is_behind ["self", "one", "other"] d_Plan_is_behind.scope := ⟨rfl, rfl, rfl, by decide +kernel, rfl, by decide +kernel, by decide +kernel⟩
def b_Plan_is_behind : Sv :=
    (sRet (sOp (inDic false) (sVar 2) (sOp ixDic (sUn (fldO "Plan" 0) (sVar 0)) (sVar 1))))
def m_Plan_is_behind : List D → Option Opd := runP 3 b_Plan_is_behind
theorem o_Plan_is_behind (T : Tx K mg) : ∃ fd, FunD K "is_behind" "Plan.is_behind" d_Plan_is_behind.params d_Plan_is_behind.body d_Plan_is_behind.scope [] [] (He.fAd K d_Plan_is_behind.at_) fd ∧ FnOk P w K mg base CX0 1 (He.fAd K d_Plan_is_behind.at_) fd ["self", "one", "other"] (spP K 3 m_Plan_is_behind) := by
  obtain ⟨fd, F⟩ := T.says.def_ 10 (d := d_Plan_is_behind) rfl
  refine ⟨fd, F, F.ok (k := 0) sc_Plan_is_behind (fun vs H Q E h => spP_len h) (fun cdv A outer s H vs Q E hr h => ?_)⟩
  have nd := sc_Plan_is_behind.nd
  exact ⟨_, PSs.nox
      (pss_one (ps_ret (pe_cmp (pc_din (hu_of hr) (pv 2) (pe_dget (hu_of hr) (SlX.pe_sl (pv 0)) (pv 1) (fun _ _ => rfl)))))),
      fn_P (N := n_Plan_is_behind) (as := []) (f := b_Plan_is_behind)
      (ds_ret (dx_din (dx_var 2) (dx_dget (dx_fld T.k_Plan T.s_Plan_own_ahead (dx_var 0)) (dx_var 1)))) h⟩
theorem r_Plan_is_behind (T : Tx K mg) : FnR P w K mg base CX0 1 (He.fAd K d_Plan_is_behind.at_) (spP K 3 m_Plan_is_behind) := by
  obtain ⟨fd, F, ok⟩ := o_Plan_is_behind (P := P) (w := w) (base := base) T
  exact fnR_of ok (F.bindsN fun _ _ _ _ _ _ us hl => match us, hl with | [_, _, _], _ => rfl)
/-! Plan.worth -/
def n_Plan_worth : List Str := ["self", "step"]
theorem sc_Plan_worth : FnScope n_Plan_worth ["self", "step"] d_Plan_worth.scope := ⟨rfl, rfl, rfl, by decide +kernel, rfl, by decide +kernel, by decide +kernel⟩
def b_Plan_worth : Sv :=
    (sRet (sOp ixDic (sUn (fldO "Plan" 3) (sVar 0)) (sVar 1)))
def m_Plan_worth : List D → Option Opd := runP 2 b_Plan_worth
theorem o_Plan_worth (T : Tx K mg) : ∃ fd, FunD K "worth" "Plan.worth" d_Plan_worth.params d_Plan_worth.body d_Plan_worth.scope [] [] (He.fAd K d_Plan_worth.at_) fd ∧ FnOk P w K mg base CX0 1 (He.fAd K d_Plan_worth.at_) fd ["self", "step"] (spP K 2 m_Plan_worth) := by
  obtain ⟨fd, F⟩ := T.says.def_ 8 (d := d_Plan_worth) rfl
  refine ⟨fd, F, F.ok (k := 0) sc_Plan_worth (fun vs H Q E h => spP_len h) (fun cdv A outer s H vs Q E hr h => ?_)⟩
  have nd := sc_Plan_worth.nd
  exact ⟨_, PSs.nox
      (pss_one (ps_ret (pe_dget (hu_of hr) (SlX.pe_sl (pv 0)) (pv 1) (fun _ _ => rfl)))),
      fn_P (N := n_Plan_worth) (as := []) (f := b_Plan_worth)
      (ds_ret (dx_dget (dx_fld T.k_Plan T.s_Plan_own_numbers (dx_var 0)) (dx_var 1))) h⟩
theorem r_Plan_worth (T : Tx K mg) : FnR P w K mg base CX0 1 (He.fAd K d_Plan_worth.at_) (spP K 2 m_Plan_worth) := by
  obtain ⟨fd, F, ok⟩ := o_Plan_worth (P := P) (w := w) (base := base) T
  exact fnR_of ok (F.bindsN fun _ _ _ _ _ _ us hl => match us, hl with | [_, _], _ => rfl)
/-! is_less -/
def n_is_less : List Str := ["one", "other"]
theorem sc_is_less : FnScope n_is_less ["one", "other"] d_is_less.scope := ⟨rfl, rfl, rfl, by decide +kernel, rfl, by decide +kernel, by decide +kernel⟩
def b_is_less : Sv :=
    (sRet (sOp ltU (sOp mulU (sOp ixSeq (sVar 0) (sC (.int 0))) (sOp ixSeq (sVar 1) (sC (.int 1)))) (sOp mulU (sOp ixSeq (sVar 1) (sC (.int 0))) (sOp ixSeq (sVar 0) (sC (.int 1))))))
def m_is_less : List D → Option Opd := runP 2 b_is_less
theorem o_is_less (T : Tx K mg) : ∃ fd, FunD K "is_less" "is_less" d_is_less.params d_is_less.body d_is_less.scope [] [] (He.fAd K d_is_less.at_) fd ∧ FnOk P w K mg base CX0 1 (He.fAd K d_is_less.at_) fd ["one", "other"] (spP K 2 m_is_less) := by
  obtain ⟨fd, F⟩ := T.says.def_ 2 (d := d_is_less) rfl
  refine ⟨fd, F, F.ok (k := 0) sc_is_less (fun vs H Q E h => spP_len h) (fun cdv A outer s H vs Q E hr h => ?_)⟩
  have nd := sc_is_less.nd
  exact ⟨_, PSs.nox
      (pss_one (ps_ret (pe_cmpR op_ltU (pe_op op_mulU (pe_ix ix_seq (pv 0) pe_int (fun _ _ => rfl)) (pe_ix ix_seq (pv 1) pe_int (fun _ _ => rfl))) (pe_op op_mulU (pe_ix ix_seq (pv 1) pe_int (fun _ _ => rfl)) (pe_ix ix_seq (pv 0) pe_int (fun _ _ => rfl))) (nomark _)))),
      fn_P (N := n_is_less) (as := []) (f := b_is_less)
      (ds_ret (dx_op od_ltU (dx_op od_mulU (dx_op od_ixSeq (dx_var 0) (dx_c fun _ => .int _)) (dx_op od_ixSeq (dx_var 1) (dx_c fun _ => .int _))) (dx_op od_mulU (dx_op od_ixSeq (dx_var 1) (dx_c fun _ => .int _)) (dx_op od_ixSeq (dx_var 0) (dx_c fun _ => .int _))))) h⟩
theorem c_is_less (T : Tx K mg) : C8.Cal P w K mg base 1 "is_less" (spP K 2 m_is_less) [] := by
  obtain ⟨fd, F, ok⟩ := o_is_less (P := P) (w := w) (base := base) T
  exact ⟨_, fd, ["one", "other"], [], ok, T.f_is_less, F.kp, F.bindsN fun _ _ _ _ _ _ us hl => match us, hl with | [_, _], _ => rfl, .nil⟩
/-! Plan.is_lower -/
def n_Plan_is_lower : List Str := ["self", "one", "other", "mine", "its"]
theorem sc_Plan_is_lower : FnScope n_Plan_is_lower ["self", "one", "other"] d_Plan_is_lower.scope := ⟨rfl, rfl, rfl, by decide +kernel, rfl, by decide +kernel, by decide +kernel⟩
def b_Plan_is_lower : Sv :=
    (sSeq (sPar 3 4 (sMeth "Plan" m_Plan_worth (sVar 0) (sCons (sVar 1) sNil)) (sMeth "Plan" m_Plan_worth (sVar 0) (sCons (sVar 2) sNil)))
    (sRet (sOrV (sCall m_is_less (sCons (sVar 3) (sCons (sVar 4) sNil))) (sAndV (sOp eqO (sVar 3) (sVar 4)) (sOp ltU (sVar 1) (sVar 2))))))
def m_Plan_is_lower : List D → Option Opd := runP 5 b_Plan_is_lower
theorem o_Plan_is_lower (T : Tx K mg) : ∃ fd, FunD K "is_lower" "Plan.is_lower" d_Plan_is_lower.params d_Plan_is_lower.body d_Plan_is_lower.scope [] [] (He.fAd K d_Plan_is_lower.at_) fd ∧ FnOk P w K mg base CX0 2 (He.fAd K d_Plan_is_lower.at_) fd ["self", "one", "other"] (spP K 3 m_Plan_is_lower) := by
  obtain ⟨fd, F⟩ := T.says.def_ 12 (d := d_Plan_is_lower) rfl
  refine ⟨fd, F, F.ok (k := 1) sc_Plan_is_lower (fun vs H Q E h => spP_len h) (fun cdv A outer s H vs Q E hr h => ?_)⟩
  have nd := sc_Plan_is_lower.nd
  exact ⟨_, PSs.nox
      (pss_cons (ps_par (i := 3) (j := 4) rfl nd rfl rfl (by decide) rfl rfl (pa_cons (SlX.pe_methSl (pv 0) T.k_Plan T.m_Plan_worth (r_Plan_worth T) (hr.mono (by decide)) pass0 (pa_cons (pv 1) pa_nil)) (pa_cons (SlX.pe_methSl (pv 0) T.k_Plan T.m_Plan_worth (r_Plan_worth T) (hr.mono (by decide)) pass0 (pa_cons (pv 2) pa_nil)) pa_nil)) (by rfl)) (pss_one (ps_ret (pe_or (C8.pe_c (c_is_less T) hr (by decide) rfl (pa_cons (pv 3) (pa_cons (pv 4) pa_nil))) (pe_one (pe_and (pe_cmpR (op_eqD hr.units) (pv 3) (pv 4) (nomark _)) (pe_one (pe_cmpR op_ltU (pv 1) (pv 2) (nomark _))))))))),
      fn_P (N := n_Plan_is_lower) (as := [3, 4]) (f := b_Plan_is_lower)
      (ds_seq (ds_par (i := 3) (j := 4) (by decide) (by decide) (dx_meth (dx_var 0) (da_cons (dx_var 1) da_nil) (ln_up (ln_cons ln_nil))) (dx_meth (dx_var 0) (da_cons (dx_var 2) da_nil) (ln_up (ln_cons ln_nil)))) (ds_ret (dx_orV (dx_call (da_cons (dx_var 3) (da_cons (dx_var 4) da_nil)) (ln_cons (ln_cons ln_nil))) (dx_andV (dx_op od_eq (dx_var 3) (dx_var 4)) (dx_op od_ltU (dx_var 1) (dx_var 2)))))) h⟩
theorem r_Plan_is_lower (T : Tx K mg) : FnR P w K mg base CX0 2 (He.fAd K d_Plan_is_lower.at_) (spP K 3 m_Plan_is_lower) := by
  obtain ⟨fd, F, ok⟩ := o_Plan_is_lower (P := P) (w := w) (base := base) T
  exact fnR_of ok (F.bindsN fun _ _ _ _ _ _ us hl => match us, hl with | [_, _, _], _ => rfl)
/-! Plan.raised -/
def n_Plan_raised : List Str := ["self", "steps", "found", "left", "lowest", "step"]
theorem sc_Plan_raised : FnScope n_Plan_raised ["self", "steps"] d_Plan_raised.scope := ⟨rfl, rfl, rfl, by decide +kernel, rfl, by decide +kernel, by decide +kernel⟩
def b_Plan_raised : Sv :=
    (sSeq (sPar 2 3 (sLst sNil) (sUn sortDicO (sVar 1)))
    (sSeq (whL (sB (sOp (iCmp fun i j => decide (j < i)) (sUn lenD (sVar 3)) (sC (.int 0)))) (sSeq (sSet 4 (sOp ixSeq (sVar 3) (sC (.int 0))))
    (sSeq (sFor (cRel (sSlice (sVar 3) (sPart (sC (.int 1))) sNoPart)) (hName 5) (sSet 4 (sIf (sB (sMeth "Plan" m_Plan_is_lower (sVar 0) (sCons (sVar 5) (sCons (sVar 4) sNil)))) (sVar 5) (sVar 4))))
    (sSeq (sExpr (sApp 2 (sVar 4)))
    (sExpr (sRemove 3 (sVar 4)))))) 1000)
    (sRet (sVar 2))))
def m_Plan_raised : List D → Option Opd := runP 6 b_Plan_raised
theorem o_Plan_raised (T : Tx K mg) : ∃ fd, FunD K "raised" "Plan.raised" d_Plan_raised.params d_Plan_raised.body d_Plan_raised.scope [] [] (He.fAd K d_Plan_raised.at_) fd ∧ FnOk P w K mg base CX0 3 (He.fAd K d_Plan_raised.at_) fd ["self", "steps"] (spP K 2 m_Plan_raised) := by
  obtain ⟨fd, F⟩ := T.says.def_ 13 (d := d_Plan_raised) rfl
  refine ⟨fd, F, F.ok (k := 2) sc_Plan_raised (fun vs H Q E h => spP_len h) (fun cdv A outer s H vs Q E hr h => ?_)⟩
  have nd := sc_Plan_raised.nd
  exact ⟨_, PSs.nox
      (pss_cons (ps_par (i := 2) (j := 3) rfl nd rfl rfl (by decide) rfl rfl (pa_cons (pe_lst pa_nil) (pa_cons (pe_callB (call_sortedD rfl) rfl T.g_sorted (by rfl) (pa_cons (pv 1) pa_nil)) pa_nil)) (by rfl)) (pss_cons (ps_while PassesOwn.never (pt_cmpR op_gt (pe_callB call_len rfl T.g_len (by rfl) (pa_cons (pv 3) pa_nil)) pe_int (nomark _)) (pss_cons (ps_set (i := 4) nd rfl (Or.inl rfl) (pe_ix ix_seq (pv 3) pe_int (fun _ _ => rfl))) (pss_cons (ps_for PassesOwn.never rfl (pi_seq (pe_slice sl_U (pv 3) (po_some pe_int) po_none)) (pg_name (i := 5) nd rfl (Or.inl rfl)) (pss_one (ps_set (i := 4) nd rfl (Or.inl rfl) (pe_ifExp (pt_val (SlX.pe_methSl (pv 0) T.k_Plan T.m_Plan_is_lower (r_Plan_is_lower T) (hr.mono (by decide)) pass0 (pa_cons (pv 5) (pa_cons (pv 4) pa_nil)))) (pv 5) (pv 4))))) (pss_cons (ps_expr (pe_bm PySem.F.plainAttrs_list PySem.F.slot_list_append PySem.F.type_list_append mt_append (pv 2) (pa_cons (pv 4) pa_nil))) (pss_one (ps_expr (pe_bm PySem.F.plainAttrs_list PySem.F.slot_list_remove PySem.F.type_list_remove mt_removeS (pv 3) (pa_cons (pv 4) pa_nil)))))))) (pss_one (ps_ret (pv 2))))),
      fn_P (N := n_Plan_raised) (as := [2, 3, 4, 5]) (f := b_Plan_raised)
      (ds_seq (ds_par (i := 2) (j := 3) (by decide) (by decide) (dx_lst da_nil) (dx_cb1 ud_sortedD (dx_var 1))) (ds_seq (ds_while 1000 (dt_test (dx_op od_B0 (dx_len (dx_var 3)) (dx_c fun _ => .int _))) (ds_seq (ds_set 4 (by decide) (dx_op od_ixSeq (dx_var 3) (dx_c fun _ => .int _))) (ds_seq (ds_for (by decide) (di_rel (dx_slice (dx_var 3) (do_some (dx_c fun _ => .int _)) do_none)) (dg_name 5) (ds_set 4 (by decide) (dx_if (dt_B (dx_meth (dx_var 0) (da_cons (dx_var 5) (da_cons (dx_var 4) da_nil)) (ln_up (ln_cons (ln_cons ln_nil))))) (dx_var 5) (dx_var 4)))) (ds_seq (ds_expr (dx_app 2 (dx_var 4))) (ds_expr (dx_remove 3 (dx_var 4))))))) (ds_ret (dx_var 2)))) h⟩
theorem r_Plan_raised (T : Tx K mg) : FnR P w K mg base CX0 3 (He.fAd K d_Plan_raised.at_) (spP K 2 m_Plan_raised) := by
  obtain ⟨fd, F, ok⟩ := o_Plan_raised (P := P) (w := w) (base := base) T
  exact fnR_of ok (F.bindsN fun _ _ _ _ _ _ us hl => match us, hl with | [_, _], _ => rfl)
/-! Plan.known -/
def n_Plan_known : List Str := ["self", "commit"]
theorem sc_Plan_known : FnScope n_Plan_known ["self", "commit"] d_Plan_known.scope := ⟨rfl, rfl, rfl, by decide +kernel, rfl, by decide +kernel, by decide +kernel⟩
def b_Plan_known : Sv :=
    (sRet (sMeth "Plan" m_Plan_raised (sVar 0) (sCons (sOp ixDic (sUn (fldO "Plan" 2) (sVar 0)) (sVar 1)) sNil)))
def m_Plan_known : List D → Option Opd := runP 2 b_Plan_known
theorem o_Plan_known (T : Tx K mg) : ∃ fd, FunD K "known" "Plan.known" d_Plan_known.params d_Plan_known.body d_Plan_known.scope [] [] (He.fAd K d_Plan_known.at_) fd ∧ FnOk P w K mg base CX0 4 (He.fAd K d_Plan_known.at_) fd ["self", "commit"] (spP K 2 m_Plan_known) := by
  obtain ⟨fd, F⟩ := T.says.def_ 14 (d := d_Plan_known) rfl
  refine ⟨fd, F, F.ok (k := 3) sc_Plan_known (fun vs H Q E h => spP_len h) (fun cdv A outer s H vs Q E hr h => ?_)⟩
  have nd := sc_Plan_known.nd
  exact ⟨_, PSs.nox
      (pss_one (ps_ret (SlX.pe_methSl (pv 0) T.k_Plan T.m_Plan_raised (r_Plan_raised T) (hr.mono (by decide)) pass0 (pa_cons (pe_dget (hu_of hr) (SlX.pe_sl (pv 0)) (pv 1) (fun _ _ => rfl)) pa_nil)))),
      fn_P (N := n_Plan_known) (as := []) (f := b_Plan_known)
      (ds_ret (dx_meth (dx_var 0) (da_cons (dx_dget (dx_fld T.k_Plan T.s_Plan_own_known (dx_var 0)) (dx_var 1)) da_nil) (ln_up (ln_cons ln_nil)))) h⟩
theorem r_Plan_known (T : Tx K mg) : FnR P w K mg base CX0 4 (He.fAd K d_Plan_known.at_) (spP K 2 m_Plan_known) := by
  obtain ⟨fd, F, ok⟩ := o_Plan_known (P := P) (w := w) (base := base) T
  exact fnR_of ok (F.bindsN fun _ _ _ _ _ _ us hl => match us, hl with | [_, _], _ => rfl)
/-! not_less -/
def n_not_less : List Str := ["own", "commit", "step", "other"]
theorem sc_not_less : FnScope n_not_less ["own", "commit", "step"] d_not_less.scope := ⟨rfl, rfl, rfl, by decide +kernel, rfl, by decide +kernel, by decide +kernel⟩
def b_not_less : Sv :=
    (sRet (sLc (cRel (sMeth "Plan" m_Plan_known (sVar 0) (sCons (sVar 1) sNil))) [] [3] (hName 3) (sAnd (sB (sOp neO (sVar 3) (sVar 2))) (sNot (sB (sCall m_is_less (sCons (sMeth "Plan" m_Plan_worth (sVar 0) (sCons (sVar 3) sNil)) (sCons (sMeth "Plan" m_Plan_worth (sVar 0) (sCons (sVar 2) sNil)) sNil)))))) (sVar 3)))
def m_not_less : List D → Option Opd := runP 4 b_not_less
theorem o_not_less (T : Tx K mg) : ∃ fd, FunD K "not_less" "not_less" d_not_less.params d_not_less.body d_not_less.scope [] [] (He.fAd K d_not_less.at_) fd ∧ FnOk P w K mg base CX0 5 (He.fAd K d_not_less.at_) fd ["own", "commit", "step"] (spP K 3 m_not_less) := by
  obtain ⟨fd, F⟩ := T.says.def_ 27 (d := d_not_less) rfl
  refine ⟨fd, F, F.ok (k := 4) sc_not_less (fun vs H Q E h => spP_len h) (fun cdv A outer s H vs Q E hr h => ?_)⟩
  have nd := sc_not_less.nd
  exact ⟨_, PSs.nox
      (pss_one (ps_ret (pe_lc (own := [("other", 3)]) rfl nd (pi_seq (SlX.pe_methSl (pv 0) T.k_Plan T.m_Plan_known (r_Plan_known T) (hr.mono (by decide)) pass0 (pa_cons (pv 1) pa_nil))) (blkOk_by (N := n_not_less) (sc := d_not_less.scope) (by decide +kernel)) (fun _ _ _ _ _ => (pg_name (i := 3) nd rfl (Or.inl rfl))) (fun _ _ _ _ _ => (pts_one (PW.pt (pw_and (pt_cmpR (op_neD hr.units) (pv 3) (pv 2) (nomark _)) (pw_and1 (pt_not (pt_val (C8.pe_c (c_is_less T) hr (by decide) rfl (pa_cons (SlX.pe_methSl (pv 0) T.k_Plan T.m_Plan_worth (r_Plan_worth T) (hr.mono (by decide)) pass0 (pa_cons (pv 3) pa_nil)) (pa_cons (SlX.pe_methSl (pv 0) T.k_Plan T.m_Plan_worth (r_Plan_worth T) (hr.mono (by decide)) pass0 (pa_cons (pv 2) pa_nil)) pa_nil)))))))))) (fun _ _ _ _ _ => (pv 3))))),
      fn_P (N := n_not_less) (as := []) (f := b_not_less)
      (ds_ret (dx_lc (ms := []) (vs := [3]) (di_rel (dx_meth (dx_var 0) (da_cons (dx_var 1) da_nil) (ln_up (ln_cons ln_nil)))) (dg_name 3) (by decide) (dt_and (dt_test (dx_op od_ne (dx_var 3) (dx_var 2))) (dt_not (dt_B (dx_call (da_cons (dx_meth (dx_var 0) (da_cons (dx_var 3) da_nil) (ln_up (ln_cons ln_nil))) (da_cons (dx_meth (dx_var 0) (da_cons (dx_var 2) da_nil) (ln_up (ln_cons ln_nil))) da_nil)) (ln_cons (ln_cons ln_nil)))))) (dx_var 3))) h⟩
theorem c_not_less (T : Tx K mg) : C8.Cal P w K mg base 5 "not_less" (spP K 3 m_not_less) [] := by
  obtain ⟨fd, F, ok⟩ := o_not_less (P := P) (w := w) (base := base) T
  exact ⟨_, fd, ["own", "commit", "step"], [], ok, T.f_not_less, F.kp, F.bindsN fun _ _ _ _ _ _ us hl => match us, hl with | [_, _, _], _ => rfl, .nil⟩
/-! pairs_of -/
def n_pairs_of : List Str := ["own", "step", "early", "late", "name", "one", "other"]
theorem sc_pairs_of : FnScope n_pairs_of ["own", "step"] d_pairs_of.scope := ⟨rfl, rfl, rfl, by decide +kernel, rfl, by decide +kernel, by decide +kernel⟩
def b_pairs_of : Sv :=
    (sSeq (sSet 2 (sLc (cRel (sMeth "Plan" m_Plan_commits (sVar 0) sNil)) [] [4] (hName 4) (sAnd (sNot (sB (sMeth "Plan" m_Plan_knows (sVar 0) (sCons (sVar 4) (sCons (sVar 1) sNil))))) (sB (sOp (iCmp fun i j => decide (j < i)) (sUn lenD (sCall m_not_less (sCons (sVar 0) (sCons (sVar 4) (sCons (sVar 1) sNil))))) (sC (.int 0))))) (sVar 4)))
    (sSeq (sSet 3 (sLc (cRel (sMeth "Plan" m_Plan_commits (sVar 0) sNil)) [] [4] (hName 4) (sB (sMeth "Plan" m_Plan_knows (sVar 0) (sCons (sVar 4) (sCons (sVar 1) sNil)))) (sVar 4)))
    (sRet (sLc2 (cRel (sVar 2)) [] [5, 6] [6] (hName 5) sYes (cRel (sVar 3)) (hName 6) (sB (sMeth "Plan" m_Plan_is_behind (sVar 0) (sCons (sVar 6) (sCons (sVar 5) sNil)))) (sTup (sCons (sVar 5) (sCons (sVar 6) sNil)))))))
def m_pairs_of : List D → Option Opd := runP 7 b_pairs_of
theorem o_pairs_of (T : Tx K mg) : ∃ fd, FunD K "pairs_of" "pairs_of" d_pairs_of.params d_pairs_of.body d_pairs_of.scope [] [] (He.fAd K d_pairs_of.at_) fd ∧ FnOk P w K mg base CX0 6 (He.fAd K d_pairs_of.at_) fd ["own", "step"] (spP K 2 m_pairs_of) := by
  obtain ⟨fd, F⟩ := T.says.def_ 30 (d := d_pairs_of) rfl
  refine ⟨fd, F, F.ok (k := 5) sc_pairs_of (fun vs H Q E h => spP_len h) (fun cdv A outer s H vs Q E hr h => ?_)⟩
  have nd := sc_pairs_of.nd
  exact ⟨_, PSs.nox
      (pss_cons (ps_setLc (i := 2) (own := [("name", 4)]) rfl nd rfl rfl (sw_true rfl rfl rfl (by decide +kernel)) (pi_seq (SlX.pe_methSl0 (pv 0) T.k_Plan T.m_Plan_commits (r_Plan_commits T) (hr.mono (by decide)) pass0)) (blkOk_by (N := n_pairs_of) (sc := d_pairs_of.scope) (by decide +kernel)) (fun _ _ _ _ _ => (pg_name (i := 4) nd rfl (Or.inl rfl))) (fun _ _ _ _ _ => (pts_one (PW.pt (pw_and (pt_not (pt_val (SlX.pe_methSl (pv 0) T.k_Plan T.m_Plan_knows (r_Plan_knows T) (hr.mono (by decide)) pass0 (pa_cons (pv 4) (pa_cons (pv 1) pa_nil))))) (pw_and1 (pt_cmpR op_gt (pe_callB call_len rfl T.g_len (by rfl) (pa_cons (C8.pe_c (c_not_less T) hr (by decide) rfl (pa_cons (pv 0) (pa_cons (pv 4) (pa_cons (pv 1) pa_nil)))) pa_nil)) pe_int (nomark _))))))) (fun _ _ _ _ _ => (pv 4))) (pss_cons (ps_set (i := 3) nd rfl (Or.inr rfl) (pe_lc (own := [("name", 4)]) rfl nd (pi_seq (SlX.pe_methSl0 (pv 0) T.k_Plan T.m_Plan_commits (r_Plan_commits T) (hr.mono (by decide)) pass0)) (blkOk_by (N := n_pairs_of) (sc := d_pairs_of.scope) (by decide +kernel)) (fun _ _ _ _ _ => (pg_name (i := 4) nd rfl (Or.inl rfl))) (fun _ _ _ _ _ => (pts_one (pt_val (SlX.pe_methSl (pv 0) T.k_Plan T.m_Plan_knows (r_Plan_knows T) (hr.mono (by decide)) pass0 (pa_cons (pv 4) (pa_cons (pv 1) pa_nil)))))) (fun _ _ _ _ _ => (pv 4)))) (pss_one (ps_ret (pe_lc2 (own := [("one", 5), ("other", 6)]) (vs1 := [6]) rfl nd (pi_seq (pv 2)) (blkOk_by (N := n_pairs_of) (sc := d_pairs_of.scope) (by decide +kernel)) (by decide) (fun _ _ _ _ _ => (pg_name (i := 5) nd rfl (Or.inl rfl))) (fun _ _ _ _ _ => pts_nil) (fun _ _ _ _ _ => (pi_seq (pv 3))) (fun _ _ _ _ _ => (pg_name (i := 6) nd rfl (Or.inl rfl))) (fun _ _ _ _ _ => (pts_one (pt_val (SlX.pe_methSl (pv 0) T.k_Plan T.m_Plan_is_behind (r_Plan_is_behind T) (hr.mono (by decide)) pass0 (pa_cons (pv 6) (pa_cons (pv 5) pa_nil)))))) (fun _ _ _ _ _ => (pe_tupF (pa_cons (pv 5) (pa_cons (pv 6) pa_nil))))))))),
      fn_P (N := n_pairs_of) (as := [2, 3]) (f := b_pairs_of)
      (ds_seq (ds_set 2 (by decide) (dx_lc (ms := []) (vs := [4]) (di_rel (dx_meth (dx_var 0) da_nil (ln_up ln_nil))) (dg_name 4) (by decide) (dt_and (dt_not (dt_B (dx_meth (dx_var 0) (da_cons (dx_var 4) (da_cons (dx_var 1) da_nil)) (ln_up (ln_cons (ln_cons ln_nil)))))) (dt_test (dx_op od_B0 (dx_len (dx_call (da_cons (dx_var 0) (da_cons (dx_var 4) (da_cons (dx_var 1) da_nil))) (ln_cons (ln_cons (ln_cons ln_nil))))) (dx_c fun _ => .int _)))) (dx_var 4))) (ds_seq (ds_set 3 (by decide) (dx_lc (ms := []) (vs := [4]) (di_rel (dx_meth (dx_var 0) da_nil (ln_up ln_nil))) (dg_name 4) (by decide) (dt_B (dx_meth (dx_var 0) (da_cons (dx_var 4) (da_cons (dx_var 1) da_nil)) (ln_up (ln_cons (ln_cons ln_nil))))) (dx_var 4))) (ds_ret (dx_lc2 (ms := []) (vs := [5, 6]) (vs1 := [6]) (di_rel (dx_var 2)) (dg_name 5) (by decide) dt_yes (by decide) (di0_rel (dx_var 3)) (dg_name 6) (by decide) (dt_B (dx_meth (dx_var 0) (da_cons (dx_var 6) (da_cons (dx_var 5) da_nil)) (ln_up (ln_cons (ln_cons ln_nil))))) (dx_tup (da_cons (dx_var 5) (da_cons (dx_var 6) da_nil))))))) h⟩
theorem c_pairs_of (T : Tx K mg) : C8.Cal P w K mg base 6 "pairs_of" (spP K 2 m_pairs_of) [] := by
  obtain ⟨fd, F, ok⟩ := o_pairs_of (P := P) (w := w) (base := base) T
  exact ⟨_, fd, ["own", "step"], [], ok, T.f_pairs_of, F.kp, F.bindsN fun _ _ _ _ _ _ us hl => match us, hl with | [_, _], _ => rfl, .nil⟩
/-! Plan.__iter__ -/
def n_Plan___iter__ : List Str := ["self"]
theorem sc_Plan___iter__ : FnScope n_Plan___iter__ ["self"] d_Plan___iter__.scope := ⟨rfl, rfl, rfl, by decide +kernel, rfl, by decide +kernel, by decide +kernel⟩
theorem r_Plan___iter__ (T : Tx K mg) : FnS P w K mg base 1 (He.fAd K d_Plan___iter__.at_) (spIt (He.ga K "Plan") 3) := by
  obtain ⟨fd, F⟩ := T.says.def_ 4 (d := d_Plan___iter__) rfl
  refine fnS_of (k := 0) F sc_Plan___iter__ (F.bindsN fun _ _ _ _ _ _ us hl => match us, hl with | [_], _ => rfl) fun cdv A outer s H v Q E hr h => ?_
  have nd := sc_Plan___iter__.nd
  exact ⟨_, PSs.nox (pss_one (ps_ret (pe_callB call_iterK rfl T.g_iter (by rfl) (pa_cons (SlX.pe_sl (pv 0)) pa_nil)))), iter_ok (by decide) T.k_Plan T.s_Plan_own_numbers h⟩
/-! can_miss -/
def n_can_miss : List Str := ["plan", "own", "step"]
theorem sc_can_miss : FnScope n_can_miss ["plan"] d_can_miss.scope := ⟨rfl, rfl, rfl, by decide +kernel, rfl, by decide +kernel, by decide +kernel⟩
def b_can_miss : Sv :=
    (sSeq (sSet 1 (sMake m_Plan (sCons (sVar 0) sNil)))
    (sRet (sLc (cOwn "Plan" 3 (sVar 1)) [] [2] (hName 2) (sB (sOp (iCmp fun i j => decide (j < i)) (sUn lenD (sCall m_pairs_of (sCons (sVar 1) (sCons (sVar 2) sNil)))) (sC (.int 0)))) (sVar 2))))
def m_can_miss : List D → Option Opd := runP 3 b_can_miss
theorem o_can_miss (T : Tx K mg) : ∃ fd, FunD K "can_miss" "can_miss" d_can_miss.params d_can_miss.body d_can_miss.scope [] [] (He.fAd K d_can_miss.at_) fd ∧ FnOk P w K mg base CX0 10 (He.fAd K d_can_miss.at_) fd ["plan"] (spP K 1 m_can_miss) := by
  obtain ⟨fd, F⟩ := T.says.def_ 31 (d := d_can_miss) rfl
  refine ⟨fd, F, F.ok (k := 9) sc_can_miss (fun vs H Q E h => spP_len h) (fun cdv A outer s H vs Q E hr h => ?_)⟩
  have nd := sc_can_miss.nd
  exact ⟨_, PSs.nox
      (pss_cons (ps_set (i := 1) nd rfl (Or.inr rfl) (C8.pe_mk (mk_Plan T) hr (by decide) rfl (pa_cons (pv 0) pa_nil))) (pss_one (ps_ret (pe_lc (own := [("step", 2)]) rfl nd (pi_own T.m_Plan___iter__ (r_Plan___iter__ T) (hr.mono (by decide)) (pv 1)) (blkOk_by (N := n_can_miss) (sc := d_can_miss.scope) (by decide +kernel)) (fun _ _ _ _ _ => (pg_name (i := 2) nd rfl (Or.inl rfl))) (fun _ _ _ _ _ => (pts_one (pt_cmpR op_gt (pe_callB call_len rfl T.g_len (by rfl) (pa_cons (C8.pe_c (c_pairs_of T) hr (by decide) rfl (pa_cons (pv 1) (pa_cons (pv 2) pa_nil))) pa_nil)) pe_int (nomark _)))) (fun _ _ _ _ _ => (pv 2)))))),
      fn_P (N := n_can_miss) (as := [1]) (f := b_can_miss)
      (ds_seq (ds_set 1 (by decide) (dx_make (da_cons (dx_var 0) da_nil) (ln_cons ln_nil))) (ds_ret (dx_lc (ms := []) (vs := [2]) (di_own (c := "Plan") (i := 3) (dx_var 1)) (dg_name 2) (by decide) (dt_test (dx_op od_B0 (dx_len (dx_call (da_cons (dx_var 1) (da_cons (dx_var 2) da_nil)) (ln_cons (ln_cons ln_nil)))) (dx_c fun _ => .int _))) (dx_var 2)))) h⟩
theorem c_can_miss (T : Tx K mg) : C8.Cal P w K mg base 10 "can_miss" (spP K 1 m_can_miss) [] := by
  obtain ⟨fd, F, ok⟩ := o_can_miss (P := P) (w := w) (base := base) T
  exact ⟨_, fd, ["plan"], [], ok, T.f_can_miss, F.kp, F.bindsN fun _ _ _ _ _ _ us hl => match us, hl with | [_], _ => rfl, .nil⟩
/-! Run.refused -/
def n_Run_refused : List Str := ["self"]
theorem sc_Run_refused : FnScope n_Run_refused ["self"] d_Run_refused.scope := ⟨rfl, rfl, rfl, by decide +kernel, rfl, by decide +kernel, by decide +kernel⟩
def b_Run_refused : Sv :=
    (sRet (sUn listD (sUn (fldO "Run" 1) (sVar 0))))
def m_Run_refused : List D → Option Opd := runP 1 b_Run_refused
theorem o_Run_refused (T : Tx K mg) : ∃ fd, FunD K "refused" "Run.refused" d_Run_refused.params d_Run_refused.body d_Run_refused.scope [] [] (He.fAd K d_Run_refused.at_) fd ∧ FnOk P w K mg base CX0 1 (He.fAd K d_Run_refused.at_) fd ["self"] (spP K 1 m_Run_refused) := by
  obtain ⟨fd, F⟩ := T.says.def_ 23 (d := d_Run_refused) rfl
  refine ⟨fd, F, F.ok (k := 0) sc_Run_refused (fun vs H Q E h => spP_len h) (fun cdv A outer s H vs Q E hr h => ?_)⟩
  have nd := sc_Run_refused.nd
  exact ⟨_, PSs.nox
      (pss_one (ps_ret (pe_callTy call_list_of rfl T.g_list (by rfl) (pa_cons (SlX.pe_sl (pv 0)) pa_nil)))),
      fn_P (N := n_Run_refused) (as := []) (f := b_Run_refused)
      (ds_ret (dx_cb1 ud_list (dx_fld T.k_Run T.s_Run_own_refused (dx_var 0)))) h⟩
theorem r_Run_refused (T : Tx K mg) : FnR P w K mg base CX0 1 (He.fAd K d_Run_refused.at_) (spP K 1 m_Run_refused) := by
  obtain ⟨fd, F, ok⟩ := o_Run_refused (P := P) (w := w) (base := base) T
  exact fnR_of ok (F.bindsN fun _ _ _ _ _ _ us hl => match us, hl with | [_], _ => rfl)
/-! Plan.look_commits -/
def n_Plan_look_commits : List Str := ["self", "names", "name"]
theorem sc_Plan_look_commits : FnScope n_Plan_look_commits ["self", "names"] d_Plan_look_commits.scope := ⟨rfl, rfl, rfl, by decide +kernel, rfl, by decide +kernel, by decide +kernel⟩
def b_Plan_look_commits : Sv :=
    (sFor (cRel (sVar 1)) (hName 2) (sIfS (sB (sOp (inDic true) (sVar 2) (sUn (fldO "Plan" 4) (sVar 0)))) sNever sNext))
def m_Plan_look_commits : List D → Option Opd := runP 3 b_Plan_look_commits
theorem o_Plan_look_commits (T : Tx K mg) : ∃ fd, FunD K "look_commits" "Plan.look_commits" d_Plan_look_commits.params d_Plan_look_commits.body d_Plan_look_commits.scope [] [] (He.fAd K d_Plan_look_commits.at_) fd ∧ FnOk P w K mg base CX0 1 (He.fAd K d_Plan_look_commits.at_) fd ["self", "names"] (spP K 2 m_Plan_look_commits) := by
  obtain ⟨fd, F⟩ := T.says.def_ 15 (d := d_Plan_look_commits) rfl
  refine ⟨fd, F, F.ok (k := 0) sc_Plan_look_commits (fun vs H Q E h => spP_len h) (fun cdv A outer s H vs Q E hr h => ?_)⟩
  have nd := sc_Plan_look_commits.nd
  exact ⟨_, PSs.nox
      (pss_one (ps_for PassesOwn.never rfl (pi_seq (pv 1)) (pg_name (i := 2) nd rfl (Or.inl rfl)) (pss_one (ps_if (pt_cmp (pc_dnotin (hu_of hr) (pv 2) (SlX.pe_sl (pv 0)))) (pss_one ps_never) pss_nil)))),
      fn_P (N := n_Plan_look_commits) (as := [2]) (f := b_Plan_look_commits)
      (ds_for (by decide) (di_rel (dx_var 1)) (dg_name 2) (ds_if (dt_test (dx_dnin (dx_var 2) (dx_fld T.k_Plan T.s_Plan_own_parents (dx_var 0)))) ds_never ds_next)) h⟩
theorem r_Plan_look_commits (T : Tx K mg) : FnR P w K mg base CX0 1 (He.fAd K d_Plan_look_commits.at_) (spP K 2 m_Plan_look_commits) := by
  obtain ⟨fd, F, ok⟩ := o_Plan_look_commits (P := P) (w := w) (base := base) T
  exact fnR_of ok (F.bindsN fun _ _ _ _ _ _ us hl => match us, hl with | [_, _], _ => rfl)
/-! Run.__init__ -/
def n_Run___init__ : List Str := ["self", "plan", "rule"]
theorem sc_Run___init__ : FnScope n_Run___init__ ["self", "plan", "rule"] d_Run___init__.scope := ⟨rfl, rfl, rfl, by decide +kernel, rfl, by decide +kernel, by decide +kernel⟩
theorem mk_Run (T : Tx K mg) : C8.Mak P w K mg base 1 "Run" (He.ga K "Run") (spRun K) [] := by
  obtain ⟨fd, F⟩ := T.says.def_ 19 (d := d_Run___init__) rfl
  refine ⟨_, fd, ["self", "plan", "rule"], [], T.mk_Run, F.ok (k := 0) sc_Run___init__ (fun vs H Q E h => spRun_len h) (fun cdv A outer s H vs Q E hr h => ?_), T.f_Run, F.bindsN fun _ _ _ _ _ _ us hl => match us, hl with | [_, _, _], _ => rfl, .nil⟩
  have nd := sc_Run___init__.nd
  exact ⟨_, PSs.nox
      (pss_cons (SlX.ps_sl (pv 0) (pv 1))
      (pss_cons (SlX.ps_sl (pv 0) (pv 2))
      (pss_cons (SlX.ps_sl (pv 0) (pe_lst pa_nil))
      (pss_one (SlX.ps_sl (pv 0) (pe_lst pa_nil)))))), initR_ok (N := n_Run___init__) rfl T.k_Run T.s_Run_own_plan T.s_Run_own_refused T.s_Run_own_row T.s_Run_own_rule h⟩
/-! Run.is_above -/
def n_Run_is_above : List Str := ["self", "step", "ran", "other"]
theorem sc_Run_is_above : FnScope n_Run_is_above ["self", "step", "ran"] d_Run_is_above.scope := ⟨rfl, rfl, rfl, by decide +kernel, rfl, by decide +kernel, by decide +kernel⟩
def b_Run_is_above : Sv :=
    (sRet (sUn allD (sLc (cRel (sVar 2)) [] [3] (hName 3) sYes (sCall m_is_less (sCons (sMeth "Plan" m_Plan_worth (sUn (fldO "Run" 0) (sVar 0)) (sCons (sVar 3) sNil)) (sCons (sMeth "Plan" m_Plan_worth (sUn (fldO "Run" 0) (sVar 0)) (sCons (sVar 1) sNil)) sNil))))))
def m_Run_is_above : List D → Option Opd := runP 4 b_Run_is_above
theorem o_Run_is_above (T : Tx K mg) : ∃ fd, FunD K "is_above" "Run.is_above" d_Run_is_above.params d_Run_is_above.body d_Run_is_above.scope [] [] (He.fAd K d_Run_is_above.at_) fd ∧ FnOk P w K mg base CX0 2 (He.fAd K d_Run_is_above.at_) fd ["self", "step", "ran"] (spP K 3 m_Run_is_above) := by
  obtain ⟨fd, F⟩ := T.says.def_ 20 (d := d_Run_is_above) rfl
  refine ⟨fd, F, F.ok (k := 1) sc_Run_is_above (fun vs H Q E h => spP_len h) (fun cdv A outer s H vs Q E hr h => ?_)⟩
  have nd := sc_Run_is_above.nd
  exact ⟨_, PSs.nox
      (pss_one (ps_ret (pe_callB (cr_all rfl) rfl T.g_all (by rfl) (pa_cons (pe_lc (own := [("other", 3)]) rfl nd (pi_seq (pv 2)) (blkOk_by (N := n_Run_is_above) (sc := d_Run_is_above.scope) (by decide +kernel)) (fun _ _ _ _ _ => (pg_name (i := 3) nd rfl (Or.inl rfl))) (fun _ _ _ _ _ => pts_nil) (fun _ _ _ _ _ => (C8.pe_c (c_is_less T) hr (by decide) rfl (pa_cons (SlX.pe_methSl (SlX.pe_sl (pv 0)) T.k_Plan T.m_Plan_worth (r_Plan_worth T) (hr.mono (by decide)) pass0 (pa_cons (pv 3) pa_nil)) (pa_cons (SlX.pe_methSl (SlX.pe_sl (pv 0)) T.k_Plan T.m_Plan_worth (r_Plan_worth T) (hr.mono (by decide)) pass0 (pa_cons (pv 1) pa_nil)) pa_nil))))) pa_nil)))),
      fn_P (N := n_Run_is_above) (as := []) (f := b_Run_is_above)
      (ds_ret (dx_cb1 ud_all (dx_lc (ms := []) (vs := [3]) (di_rel (dx_var 2)) (dg_name 3) (by decide) dt_yes (dx_call (da_cons (dx_meth (dx_fld T.k_Run T.s_Run_own_plan (dx_var 0)) (da_cons (dx_var 3) da_nil) (ln_up (ln_cons ln_nil))) (da_cons (dx_meth (dx_fld T.k_Run T.s_Run_own_plan (dx_var 0)) (da_cons (dx_var 1) da_nil) (ln_up (ln_cons ln_nil))) da_nil)) (ln_cons (ln_cons ln_nil)))))) h⟩
theorem r_Run_is_above (T : Tx K mg) : FnR P w K mg base CX0 2 (He.fAd K d_Run_is_above.at_) (spP K 3 m_Run_is_above) := by
  obtain ⟨fd, F, ok⟩ := o_Run_is_above (P := P) (w := w) (base := base) T
  exact fnR_of ok (F.bindsN fun _ _ _ _ _ _ us hl => match us, hl with | [_, _, _], _ => rfl)
/-! Run.call -/
def n_Run_call : List Str := ["self", "index", "commit", "ran", "left", "above", "more", "step"]
theorem sc_Run_call : FnScope n_Run_call ["self", "index", "commit"] d_Run_call.scope := ⟨rfl, rfl, rfl, by decide +kernel, rfl, by decide +kernel, by decide +kernel⟩
def b_Run_call (pl ru : D) : Rv :=
    (rSeq (rLook pl ru 3 (sUn listD (sUn (fldO "Run" 2) (sVar 0))))
    (rSeq (rLook pl ru 4 (sLc (cRel (sMeth "Plan" m_Plan_known (sUn (fldO "Run" 0) (sVar 0)) (sCons (sVar 2) sNil))) [] [7] (hName 7) (sB (sOp ninU (sVar 7) (sVar 3))) (sVar 7)))
    (rSeq (rLook pl ru 5 (sLc (cRel (sVar 4)) [] [7] (hName 7) (sB (sMeth "Run" m_Run_is_above (sVar 0) (sCons (sVar 7) (sCons (sVar 3) sNil)))) (sVar 7)))
    (rSeq (rIf pl ru (sAnd (sB (sOp eqO (sUn (fldO "Run" 3) (sVar 0)) (sC (.str "strict")))) (sB (sOp ltU (sUn lenD (sVar 5)) (sUn lenD (sVar 4))))) (rSeq (rOff 1)
    (rPl (sSet 4 (sLst sNil)))) (rPl sNext))
    (rSeq (rSetIf pl ru 6 (sB (sOp eqO (sUn (fldO "Run" 3) (sVar 0)) (sC (.str "last")))) (sVar 5) (sVar 4))
    (rRow pl ru (sOp addU (sUn (fldO "Run" 2) (sVar 0)) (sVar 6))))))))
def m_Run_call : D → List D → D → D → D → D → Option (List D × D) := mRun 5 b_Run_call
theorem r_Run_call (T : Tx K mg) : FnR P w K mg base CX0 5 (He.fAd K d_Run_call.at_) (spR K m_Run_call) := by
  obtain ⟨fd, F⟩ := T.says.def_ 21 (d := d_Run_call) rfl
  refine fnR_of (F.ok (k := 4) sc_Run_call (fun vs H Q E h => spR_len h) (fun cdv A outer s H vs Q E hr h => ?_)) (F.bindsN fun _ _ _ _ _ _ us hl => match us, hl with | [_, _, _], _ => rfl)
  have nd := sc_Run_call.nd
  exact ⟨_, PSs.nox
      (pss_cons (ps_set (i := 3) nd rfl (Or.inr rfl) (pe_callTy call_list_of rfl T.g_list (by rfl) (pa_cons (SlX.pe_sl (pv 0)) pa_nil))) (pss_cons (ps_setLc (i := 4) (own := [("step", 7)]) rfl nd rfl rfl (sw_true rfl rfl rfl (by decide +kernel)) (pi_seq (SlX.pe_methSl (SlX.pe_sl (pv 0)) T.k_Plan T.m_Plan_known (r_Plan_known T) (hr.mono (by decide)) pass0 (pa_cons (pv 2) pa_nil))) (blkOk_by (N := n_Run_call) (sc := d_Run_call.scope) (by decide +kernel)) (fun _ _ _ _ _ => (pg_name (i := 7) nd rfl (Or.inl rfl))) (fun _ _ _ _ _ => (pts_one (pt_cmpR op_ninU (pv 7) (pv 3) (by rfl)))) (fun _ _ _ _ _ => (pv 7))) (pss_cons (ps_setLc (i := 5) (own := [("step", 7)]) rfl nd rfl rfl (sw_true rfl rfl rfl (by decide +kernel)) (pi_seq (pv 4)) (blkOk_by (N := n_Run_call) (sc := d_Run_call.scope) (by decide +kernel)) (fun _ _ _ _ _ => (pg_name (i := 7) nd rfl (Or.inl rfl))) (fun _ _ _ _ _ => (pts_one (pt_val (SlX.pe_methSl (pv 0) T.k_Run T.m_Run_is_above (r_Run_is_above T) (hr.mono (by decide)) pass0 (pa_cons (pv 7) (pa_cons (pv 3) pa_nil)))))) (fun _ _ _ _ _ => (pv 7))) (pss_cons (ps_if (PW.pt (pw_and (pt_cmpR (op_eqD hr.units) (SlX.pe_sl (pv 0)) (C8.pe_gc (x := "STRICT") rfl T.c_STRICT) (nomark _)) (pw_and1 (pt_cmpR op_ltU (pe_callB call_len rfl T.g_len (by rfl) (pa_cons (pv 5) pa_nil)) (pe_callB call_len rfl T.g_len (by rfl) (pa_cons (pv 4) pa_nil)) (nomark _))))) (pss_cons (ps_expr (pe_bm PySem.F.plainAttrs_list PySem.F.slot_list_append PySem.F.type_list_append mt_append (SlX.pe_sl (pv 0)) (pa_cons (pv 1) pa_nil))) (pss_one (ps_set (i := 4) nd rfl (Or.inl rfl) (pe_lst pa_nil)))) pss_nil) (pss_cons (ps_set (i := 6) nd rfl (Or.inl rfl) (pe_ifExp (pt_cmpR (op_eqD hr.units) (SlX.pe_sl (pv 0)) (C8.pe_gc (x := "LAST") rfl T.c_LAST) (nomark _)) (pv 5) (pv 4))) (pss_one (SlX.ps_sl (pv 0) (pe_op op_addU (SlX.pe_sl (pv 0)) (pv 6))))))))),
      fn_R (N := n_Run_call) (k := 5) (g := b_Run_call) rfl (fun pl ru =>
      (dr_seq (dr_look (by decide) (dx_cb1 ud_list (dx_fld T.k_Run T.s_Run_own_row (dx_var 0)))) (dr_seq (dr_look (by decide) (dx_lc (ms := []) (vs := [7]) (di_rel (dx_meth (dx_fld T.k_Run T.s_Run_own_plan (dx_var 0)) (da_cons (dx_var 2) da_nil) (ln_up (ln_cons ln_nil)))) (dg_name 7) (by decide) (dt_test (dx_op od_ninU (dx_var 7) (dx_var 3))) (dx_var 7))) (dr_seq (dr_look (by decide) (dx_lc (ms := []) (vs := [7]) (di_rel (dx_var 4)) (dg_name 7) (by decide) (dt_B (dx_meth (dx_var 0) (da_cons (dx_var 7) (da_cons (dx_var 3) da_nil)) (ln_up (ln_cons (ln_cons ln_nil))))) (dx_var 7))) (dr_seq (dr_if (dt_and (dt_test (dx_op od_eq (dx_fld T.k_Run T.s_Run_own_rule (dx_var 0)) (dx_c fun _ => .str _))) (dt_test (dx_op od_ltU (dx_len (dx_var 5)) (dx_len (dx_var 4))))) (dr_seq (dr_off T.k_Run T.s_Run_own_refused) (dr_pl (as := [4]) (by decide) (ds_set 4 (by decide) (dx_lst da_nil)))) (dr_pl (as := []) (by decide) ds_next)) (dr_seq (dr_setIf (by decide) (dt_test (dx_op od_eq (dx_fld T.k_Run T.s_Run_own_rule (dx_var 0)) (dx_c fun _ => .str _))) (dx_var 5) (dx_var 4)) (dr_row T.k_Run T.s_Run_own_row (dx_op od_addU (dx_fld T.k_Run T.s_Run_own_row (dx_var 0)) (dx_var 6))))))))) mRun_ok h⟩
/-! run_of -/
def n_run_of : List Str := ["plan", "rule", "house", "own", "calls", "found", "index", "commit"]
theorem sc_run_of : FnScope n_run_of ["plan", "rule", "house"] d_run_of.scope := ⟨rfl, rfl, rfl, by decide +kernel, rfl, by decide +kernel, by decide +kernel⟩
def b_run_of : Sv :=
    (sSeq (sPar 3 4 (sMake m_Plan (sCons (sVar 0) sNil)) (sCall (m_tupled 6) (sCons (sVar 2) sNil)))
    (sSeq (sExpr (sMeth "Plan" m_Plan_look_commits (sVar 3) (sCons (sVar 4) sNil)))
    (sSeq (sRunS m_Run_call 5 (sCons (sVar 3) (sCons (sVar 1) sNil)) (cEnumU (sCons (sVar 4) sNil)) (hTup 2 (hCons (hName 6) (hCons (hName 7) hNil))) (sCons (sVar 6) (sCons (sVar 7) sNil)))
    (sRet (sVar 5)))))
def m_run_of : List D → Option Opd := runP 8 b_run_of
theorem o_run_of (T : Tx K mg) : ∃ fd, FunD K "run_of" "run_of" d_run_of.params d_run_of.body d_run_of.scope [] [] (He.fAd K d_run_of.at_) fd ∧ FnOk P w K mg base CX0 10 (He.fAd K d_run_of.at_) fd ["plan", "rule", "house"] (spP K 3 m_run_of) := by
  obtain ⟨fd, F⟩ := T.says.def_ 24 (d := d_run_of) rfl
  refine ⟨fd, F, F.ok (k := 9) sc_run_of (fun vs H Q E h => spP_len h) (fun cdv A outer s H vs Q E hr h => ?_)⟩
  have nd := sc_run_of.nd
  exact ⟨_, PSs.nox
      (pss_cons (ps_par (i := 3) (j := 4) rfl nd rfl rfl (by decide) rfl rfl (pa_cons (C8.pe_mk (mk_Plan T) hr (by decide) rfl (pa_cons (pv 0) pa_nil)) (pa_cons (C8.pe_c (c_tupled T 6) hr (by decide) rfl (pa_cons (pv 2) pa_nil)) pa_nil)) (by rfl)) (pss_cons (ps_expr (SlX.pe_methSl (pv 3) T.k_Plan T.m_Plan_look_commits (r_Plan_look_commits T) (hr.mono (by decide)) pass0 (pa_cons (pv 4) pa_nil))) (pss_cons (ps_set (i := 5) nd rfl (Or.inl rfl) (C8.pe_mk (mk_Run T) hr (by decide) rfl (pa_cons (pv 3) (pa_cons (pv 1) pa_nil)))) (pss_cons (ps_for PassesOwn.never rfl (pi_enumU rfl T.g_enumerate (pa_cons (pv 4) pa_nil)) (pg_tup rfl (pgs_cons (pg_name (i := 6) nd rfl (Or.inl rfl)) (pgs_cons (pg_name (i := 7) nd rfl (Or.inl rfl)) pgs_nil))) (pss_one (ps_expr (SlX.pe_methSl (pv 5) T.k_Run T.m_Run_call (r_Run_call T) (hr.mono (by decide)) pass0 (pa_cons (pv 6) (pa_cons (pv 7) pa_nil)))))) (pss_one (ps_ret (pv 5))))))),
      fn_P (N := n_run_of) (as := [3, 4, 5, 6, 7]) (f := b_run_of)
      (ds_seq (ds_par (i := 3) (j := 4) (by decide) (by decide) (dx_make (da_cons (dx_var 0) da_nil) (ln_cons ln_nil)) (dx_call (da_cons (dx_var 2) da_nil) (ln_cons ln_nil))) (ds_seq (ds_expr (dx_meth (dx_var 3) (da_cons (dx_var 4) da_nil) (ln_up (ln_cons ln_nil)))) (ds_two (ds_runS (fi := 5) (is := [6, 7]) (by decide) (by decide) (by decide) (da_cons (dx_var 3) (da_cons (dx_var 1) da_nil)) (dw_enumU (da_cons (dx_var 4) da_nil)) (dg_tup (dgs_cons (dg_name 6) (dgs_cons (dg_name 7) dgs_nil))) (da_cons (dx_var 6) (da_cons (dx_var 7) da_nil))) (ds_ret (dx_var 5))))) h⟩
theorem c_run_of (T : Tx K mg) : C8.Cal P w K mg base 10 "run_of" (spP K 3 m_run_of) [] := by
  obtain ⟨fd, F, ok⟩ := o_run_of (P := P) (w := w) (base := base) T
  exact ⟨_, fd, ["plan", "rule", "house"], [], ok, T.f_run_of, F.kp, F.bindsN fun _ _ _ _ _ _ us hl => match us, hl with | [_, _, _], _ => rfl, .nil⟩
/-! refused -/
def n_refused : List Str := ["plan", "house"]
theorem sc_refused : FnScope n_refused ["plan", "house"] d_refused.scope := ⟨rfl, rfl, rfl, by decide +kernel, rfl, by decide +kernel, by decide +kernel⟩
def b_refused : Sv :=
    (sRet (sMeth "Run" m_Run_refused (sCall m_run_of (sCons (sVar 0) (sCons (sC (.str "strict")) (sCons (sVar 1) sNil)))) sNil))
def m_refused : List D → Option Opd := runP 2 b_refused
theorem o_refused (T : Tx K mg) : ∃ fd, FunD K "refused" "refused" d_refused.params d_refused.body d_refused.scope [] [] (He.fAd K d_refused.at_) fd ∧ FnOk P w K mg base CX0 11 (He.fAd K d_refused.at_) fd ["plan", "house"] (spP K 2 m_refused) := by
  obtain ⟨fd, F⟩ := T.says.def_ 26 (d := d_refused) rfl
  refine ⟨fd, F, F.ok (k := 10) sc_refused (fun vs H Q E h => spP_len h) (fun cdv A outer s H vs Q E hr h => ?_)⟩
  have nd := sc_refused.nd
  exact ⟨_, PSs.nox
      (pss_one (ps_ret (SlX.pe_methSl0 (C8.pe_c (c_run_of T) hr (by decide) rfl (pa_cons (pv 0) (pa_cons (C8.pe_gc (x := "STRICT") rfl T.c_STRICT) (pa_cons (pv 1) pa_nil)))) T.k_Run T.m_Run_refused (r_Run_refused T) (hr.mono (by decide)) pass0))),
      fn_P (N := n_refused) (as := []) (f := b_refused)
      (ds_ret (dx_meth (dx_call (da_cons (dx_var 0) (da_cons (dx_c fun _ => .str _) (da_cons (dx_var 1) da_nil))) (ln_cons (ln_cons (ln_cons ln_nil)))) da_nil (ln_up ln_nil))) h⟩
theorem c_refused (T : Tx K mg) : C8.Cal P w K mg base 11 "refused" (spP K 2 m_refused) [] := by
  obtain ⟨fd, F, ok⟩ := o_refused (P := P) (w := w) (base := base) T
  exact ⟨_, fd, ["plan", "house"], [], ok, T.f_refused, F.kp, F.bindsN fun _ _ _ _ _ _ us hl => match us, hl with | [_, _], _ => rfl, .nil⟩
/-! Run.row -/
def n_Run_row : List Str := ["self"]
theorem sc_Run_row : FnScope n_Run_row ["self"] d_Run_row.scope := ⟨rfl, rfl, rfl, by decide +kernel, rfl, by decide +kernel, by decide +kernel⟩
def b_Run_row : Sv :=
    (sRet (sUn tupleD (sUn (fldO "Run" 2) (sVar 0))))
def m_Run_row : List D → Option Opd := runP 1 b_Run_row
theorem o_Run_row (T : Tx K mg) : ∃ fd, FunD K "row" "Run.row" d_Run_row.params d_Run_row.body d_Run_row.scope [] [] (He.fAd K d_Run_row.at_) fd ∧ FnOk P w K mg base CX0 1 (He.fAd K d_Run_row.at_) fd ["self"] (spP K 1 m_Run_row) := by
  obtain ⟨fd, F⟩ := T.says.def_ 22 (d := d_Run_row) rfl
  refine ⟨fd, F, F.ok (k := 0) sc_Run_row (fun vs H Q E h => spP_len h) (fun cdv A outer s H vs Q E hr h => ?_)⟩
  have nd := sc_Run_row.nd
  exact ⟨_, PSs.nox
      (pss_one (ps_ret (pe_callTy cr_tupF rfl T.g_tuple (by rfl) (pa_cons (SlX.pe_sl (pv 0)) pa_nil)))),
      fn_P (N := n_Run_row) (as := []) (f := b_Run_row)
      (ds_ret (dx_cb1 ud_tuple (dx_fld T.k_Run T.s_Run_own_row (dx_var 0)))) h⟩
theorem r_Run_row (T : Tx K mg) : FnR P w K mg base CX0 1 (He.fAd K d_Run_row.at_) (spP K 1 m_Run_row) := by
  obtain ⟨fd, F, ok⟩ := o_Run_row (P := P) (w := w) (base := base) T
  exact fnR_of ok (F.bindsN fun _ _ _ _ _ _ us hl => match us, hl with | [_], _ => rfl)
/-! row -/
def n_row : List Str := ["plan", "rule", "house"]
theorem sc_row : FnScope n_row ["plan", "rule", "house"] d_row.scope := ⟨rfl, rfl, rfl, by decide +kernel, rfl, by decide +kernel, by decide +kernel⟩
def b_row : Sv :=
    (sRet (sMeth "Run" m_Run_row (sCall m_run_of (sCons (sVar 0) (sCons (sVar 1) (sCons (sVar 2) sNil)))) sNil))
def m_row : List D → Option Opd := runP 3 b_row
theorem o_row (T : Tx K mg) : ∃ fd, FunD K "row" "row" d_row.params d_row.body d_row.scope [] [] (He.fAd K d_row.at_) fd ∧ FnOk P w K mg base CX0 11 (He.fAd K d_row.at_) fd ["plan", "rule", "house"] (spP K 3 m_row) := by
  obtain ⟨fd, F⟩ := T.says.def_ 25 (d := d_row) rfl
  refine ⟨fd, F, F.ok (k := 10) sc_row (fun vs H Q E h => spP_len h) (fun cdv A outer s H vs Q E hr h => ?_)⟩
  have nd := sc_row.nd
  exact ⟨_, PSs.nox
      (pss_one (ps_ret (SlX.pe_methSl0 (C8.pe_c (c_run_of T) hr (by decide) rfl (pa_cons (pv 0) (pa_cons (pv 1) (pa_cons (pv 2) pa_nil)))) T.k_Run T.m_Run_row (r_Run_row T) (hr.mono (by decide)) pass0))),
      fn_P (N := n_row) (as := []) (f := b_row)
      (ds_ret (dx_meth (dx_call (da_cons (dx_var 0) (da_cons (dx_var 1) (da_cons (dx_var 2) da_nil))) (ln_cons (ln_cons (ln_cons ln_nil)))) da_nil (ln_up ln_nil))) h⟩
theorem c_row (T : Tx K mg) : C8.Cal P w K mg base 11 "row" (spP K 3 m_row) [] := by
  obtain ⟨fd, F, ok⟩ := o_row (P := P) (w := w) (base := base) T
  exact ⟨_, fd, ["plan", "rule", "house"], [], ok, T.f_row, F.kp, F.bindsN fun _ _ _ _ _ _ us hl => match us, hl with | [_, _, _], _ => rfl, .nil⟩
/-! known -/
def n_known : List Str := ["plan", "commit", "found"]
theorem sc_known : FnScope n_known ["plan", "commit"] d_known.scope := ⟨rfl, rfl, rfl, by decide +kernel, rfl, by decide +kernel, by decide +kernel⟩
def b_known : Sv :=
    (sSeq (sSet 2 (sMake m_Plan (sCons (sVar 0) sNil)))
    (sSeq (sExpr (sMeth "Plan" m_Plan_look_commits (sVar 2) (sCons (sLst (sCons (sVar 1) sNil)) sNil)))
    (sRet (sMeth "Plan" m_Plan_known (sVar 2) (sCons (sVar 1) sNil)))))
def m_known : List D → Option Opd := runP 3 b_known
theorem o_known (T : Tx K mg) : ∃ fd, FunD K "known" "known" d_known.params d_known.body d_known.scope [] [] (He.fAd K d_known.at_) fd ∧ FnOk P w K mg base CX0 10 (He.fAd K d_known.at_) fd ["plan", "commit"] (spP K 2 m_known) := by
  obtain ⟨fd, F⟩ := T.says.def_ 17 (d := d_known) rfl
  refine ⟨fd, F, F.ok (k := 9) sc_known (fun vs H Q E h => spP_len h) (fun cdv A outer s H vs Q E hr h => ?_)⟩
  have nd := sc_known.nd
  exact ⟨_, PSs.nox
      (pss_cons (ps_set (i := 2) nd rfl (Or.inl rfl) (C8.pe_mk (mk_Plan T) hr (by decide) rfl (pa_cons (pv 0) pa_nil))) (pss_cons (ps_expr (SlX.pe_methSl (pv 2) T.k_Plan T.m_Plan_look_commits (r_Plan_look_commits T) (hr.mono (by decide)) pass0 (pa_cons (pe_lst (pa_cons (pv 1) pa_nil)) pa_nil))) (pss_one (ps_ret (SlX.pe_methSl (pv 2) T.k_Plan T.m_Plan_known (r_Plan_known T) (hr.mono (by decide)) pass0 (pa_cons (pv 1) pa_nil)))))),
      fn_P (N := n_known) (as := [2]) (f := b_known)
      (ds_seq (ds_set 2 (by decide) (dx_make (da_cons (dx_var 0) da_nil) (ln_cons ln_nil))) (ds_seq (ds_expr (dx_meth (dx_var 2) (da_cons (dx_lst (da_cons (dx_var 1) da_nil)) da_nil) (ln_up (ln_cons ln_nil)))) (ds_ret (dx_meth (dx_var 2) (da_cons (dx_var 1) da_nil) (ln_up (ln_cons ln_nil)))))) h⟩
theorem c_known (T : Tx K mg) : C8.Cal P w K mg base 10 "known" (spP K 2 m_known) [] := by
  obtain ⟨fd, F, ok⟩ := o_known (P := P) (w := w) (base := base) T
  exact ⟨_, fd, ["plan", "commit"], [], ok, T.f_known, F.kp, F.bindsN fun _ _ _ _ _ _ us hl => match us, hl with | [_, _], _ => rfl, .nil⟩
/-! _law_every -/
def n__law_every : List Str := ["_law_plan_so", "_law_calls_so", "_law_found", "_law_label"]
theorem sc__law_every : FnScope n__law_every ["_law_plan_so", "_law_calls_so"] d__law_every.scope := ⟨rfl, rfl, rfl, by decide +kernel, rfl, by decide +kernel, by decide +kernel⟩
def b__law_every : Sv :=
    (sSeq (sSet 2 (sLst sNil))
    (sSeq (sFor (cRel (sVar 1)) (hName 3) (sSet 2 (sOp addU (sVar 2) (sCall m_known (sCons (sVar 0) (sCons (sVar 3) sNil))))))
    (sRet (sUn sortSetO (sVar 2)))))
def m__law_every : List D → Option Opd := runP 4 b__law_every
theorem o__law_every (T : Tx K mg) : ∃ fd, FunD K "_law_every" "_law_every" d__law_every.params d__law_every.body d__law_every.scope [] [] (He.fAd K d__law_every.at_) fd ∧ FnOk P w K mg base CX0 11 (He.fAd K d__law_every.at_) fd ["_law_plan_so", "_law_calls_so"] (spP K 2 m__law_every) := by
  obtain ⟨fd, F⟩ := T.says.def_ 45 (d := d__law_every) rfl
  refine ⟨fd, F, F.ok (k := 10) sc__law_every (fun vs H Q E h => spP_len h) (fun cdv A outer s H vs Q E hr h => ?_)⟩
  have nd := sc__law_every.nd
  exact ⟨_, PSs.nox
      (pss_cons (ps_set (i := 2) nd rfl (Or.inl rfl) (pe_lst pa_nil)) (pss_cons (ps_for PassesOwn.never rfl (pi_seq (pv 1)) (pg_name (i := 3) nd rfl (Or.inl rfl)) (pss_one (ps_set (i := 2) nd rfl (Or.inl rfl) (pe_op op_addU (pv 2) (C8.pe_c (c_known T) hr (by decide) rfl (pa_cons (pv 0) (pa_cons (pv 3) pa_nil))))))) (pss_one (ps_ret (pe_callB (cr_sortTx rfl hr.units) rfl T.g_sorted (by rfl) (pa_cons (pe_callTy (cr_setTx rfl) rfl T.g_set (by rfl) (pa_cons (pv 2) pa_nil)) pa_nil)))))),
      fn_P (N := n__law_every) (as := [2, 3]) (f := b__law_every)
      (ds_seq (ds_set 2 (by decide) (dx_lst da_nil)) (ds_seq (ds_for (by decide) (di_rel (dx_var 1)) (dg_name 3) (ds_set 2 (by decide) (dx_op od_addU (dx_var 2) (dx_call (da_cons (dx_var 0) (da_cons (dx_var 3) da_nil)) (ln_cons (ln_cons ln_nil)))))) (ds_ret (dx_sortSet (dx_var 2))))) h⟩
theorem c__law_every (T : Tx K mg) : C8.Cal P w K mg base 11 "_law_every" (spP K 2 m__law_every) [] := by
  obtain ⟨fd, F, ok⟩ := o__law_every (P := P) (w := w) (base := base) T
  exact ⟨_, fd, ["_law_plan_so", "_law_calls_so"], [], ok, T.f__law_every, F.kp, F.bindsN fun _ _ _ _ _ _ us hl => match us, hl with | [_, _], _ => rfl, .nil⟩
/-! missed -/
def n_missed : List Str := ["plan", "house", "own", "calls", "ran", "found", "step", "knowing", "early", "index", "commit"]
theorem sc_missed : FnScope n_missed ["plan", "house"] d_missed.scope := ⟨rfl, rfl, rfl, by decide +kernel, rfl, by decide +kernel, by decide +kernel⟩
def b_missed : Sv :=
    (sSeq (sAsg (sTup (sCons (sMake m_Plan (sCons (sVar 0) sNil)) (sCons (sCall (m_tupled 6) (sCons (sVar 1) sNil)) (sCons (sCall m_row (sCons (sVar 0) (sCons (sC (.str "last")) (sCons (sVar 1) sNil)))) sNil)))) (hTup 3 (hCons (hName 2) (hCons (hName 3) (hCons (hName 4) hNil)))))
    (sSeq (sSet 5 (sLst sNil))
    (sSeq (sFor (cOwn "Plan" 3 (sVar 2)) (hName 6) (sSeq (sSet 7 (sLc (cEnumU (sCons (sVar 3) sNil)) [] [9, 10] (hTup 2 (hCons (hName 9) (hCons (hName 10) hNil))) (sB (sMeth "Plan" m_Plan_knows (sVar 2) (sCons (sVar 10) (sCons (sVar 6) sNil)))) (sVar 9)))
    (sIfS (sAnd (sB (sOp (iCmp fun i j => decide (j < i)) (sUn lenD (sVar 7)) (sC (.int 0)))) (sB (sOp ninU (sVar 6) (sVar 4)))) (sSeq (sSet 8 (sOp ixSeq (sLc (cEnumU (sCons (sVar 3) sNil)) [] [9, 10] (hTup 2 (hCons (hName 9) (hCons (hName 10) hNil))) (sB (sOp (iCmp fun i j => decide (j < i)) (sUn lenD (sCall m_not_less (sCons (sVar 2) (sCons (sVar 10) (sCons (sVar 6) sNil))))) (sC (.int 0)))) (sVar 9)) (sC (.int 0))))
    (sExpr (sApp 5 (sTup (sCons (sVar 6) (sCons (sOp ixSeq (sVar 7) (sC (.int 0))) (sCons (sVar 8) (sCons (sOp ixSeq (sCall m_not_less (sCons (sVar 2) (sCons (sOp ixSeq (sVar 3) (sVar 8)) (sCons (sVar 6) sNil)))) (sUn negD (sC (.int 1)))) sNil)))))))) sNext)))
    (sRet (sVar 5)))))
def m_missed : List D → Option Opd := runP 11 b_missed
theorem o_missed (T : Tx K mg) : ∃ fd, FunD K "missed" "missed" d_missed.params d_missed.body d_missed.scope [] [] (He.fAd K d_missed.at_) fd ∧ FnOk P w K mg base CX0 12 (He.fAd K d_missed.at_) fd ["plan", "house"] (spP K 2 m_missed) := by
  obtain ⟨fd, F⟩ := T.says.def_ 28 (d := d_missed) rfl
  refine ⟨fd, F, F.ok (k := 11) sc_missed (fun vs H Q E h => spP_len h) (fun cdv A outer s H vs Q E hr h => ?_)⟩
  have nd := sc_missed.nd
  exact ⟨_, PSs.nox
      (pss_cons (ps_asg (pe_tupF (pa_cons (C8.pe_mk (mk_Plan T) hr (by decide) rfl (pa_cons (pv 0) pa_nil)) (pa_cons (C8.pe_c (c_tupled T 6) hr (by decide) rfl (pa_cons (pv 1) pa_nil)) (pa_cons (C8.pe_c (c_row T) hr (by decide) rfl (pa_cons (pv 0) (pa_cons (C8.pe_gc (x := "LAST") rfl T.c_LAST) (pa_cons (pv 1) pa_nil)))) pa_nil)))) (pg_tup rfl (pgs_cons (pg_name (i := 2) nd rfl (Or.inr rfl)) (pgs_cons (pg_name (i := 3) nd rfl (Or.inl rfl)) (pgs_cons (pg_name (i := 4) nd rfl (Or.inl rfl)) pgs_nil))))) (pss_cons (ps_set (i := 5) nd rfl (Or.inl rfl) (pe_lst pa_nil)) (pss_cons (ps_for PassesOwn.never rfl (pi_own T.m_Plan___iter__ (r_Plan___iter__ T) (hr.mono (by decide)) (pv 2)) (pg_name (i := 6) nd rfl (Or.inr rfl)) (pss_cons (ps_setLc (i := 7) (own := [("index", 9), ("commit", 10)]) rfl nd rfl rfl (sw_true rfl rfl rfl (by decide +kernel)) (pi_enumU rfl T.g_enumerate (pa_cons (pv 3) pa_nil)) (blkOk_by (N := n_missed) (sc := d_missed.scope) (by decide +kernel)) (fun _ _ _ _ _ => (pg_tup rfl (pgs_cons (pg_name (i := 9) nd rfl (Or.inl rfl)) (pgs_cons (pg_name (i := 10) nd rfl (Or.inl rfl)) pgs_nil)))) (fun _ _ _ _ _ => (pts_one (pt_val (SlX.pe_methSl (pv 2) T.k_Plan T.m_Plan_knows (r_Plan_knows T) (hr.mono (by decide)) pass0 (pa_cons (pv 10) (pa_cons (pv 6) pa_nil)))))) (fun _ _ _ _ _ => (pv 9))) (pss_one (ps_if (PW.pt (pw_and (pt_cmpR op_gt (pe_callB call_len rfl T.g_len (by rfl) (pa_cons (pv 7) pa_nil)) pe_int (nomark _)) (pw_and1 (pt_cmpR op_ninU (pv 6) (pv 4) (by rfl))))) (pss_cons (ps_set (i := 8) nd rfl (Or.inl rfl) (pe_ix ix_seq (pe_lc (own := [("index", 9), ("commit", 10)]) rfl nd (pi_enumU rfl T.g_enumerate (pa_cons (pv 3) pa_nil)) (blkOk_by (N := n_missed) (sc := d_missed.scope) (by decide +kernel)) (fun _ _ _ _ _ => (pg_tup rfl (pgs_cons (pg_name (i := 9) nd rfl (Or.inl rfl)) (pgs_cons (pg_name (i := 10) nd rfl (Or.inl rfl)) pgs_nil)))) (fun _ _ _ _ _ => (pts_one (pt_cmpR op_gt (pe_callB call_len rfl T.g_len (by rfl) (pa_cons (C8.pe_c (c_not_less T) hr (by decide) rfl (pa_cons (pv 2) (pa_cons (pv 10) (pa_cons (pv 6) pa_nil)))) pa_nil)) pe_int (nomark _)))) (fun _ _ _ _ _ => (pv 9))) pe_int (fun _ _ => rfl))) (pss_one (ps_expr (pe_bm PySem.F.plainAttrs_list PySem.F.slot_list_append PySem.F.type_list_append mt_append (pv 5) (pa_cons (pe_tupF (pa_cons (pv 6) (pa_cons (pe_ix ix_seq (pv 7) pe_int (fun _ _ => rfl)) (pa_cons (pv 8) (pa_cons (pe_ix ix_seq (C8.pe_c (c_not_less T) hr (by decide) rfl (pa_cons (pv 2) (pa_cons (pe_ix ix_seq (pv 3) (pv 8) (fun _ _ => rfl)) (pa_cons (pv 6) pa_nil)))) (pe_un un_neg pe_int) (fun _ _ => rfl)) pa_nil))))) pa_nil))))) pss_nil)))) (pss_one (ps_ret (pv 5)))))),
      fn_P (N := n_missed) (as := [2, 3, 4, 5, 6, 7, 8]) (f := b_missed)
      (ds_seq (ds_asg (by decide) (dx_tup (da_cons (dx_make (da_cons (dx_var 0) da_nil) (ln_cons ln_nil)) (da_cons (dx_call (da_cons (dx_var 1) da_nil) (ln_cons ln_nil)) (da_cons (dx_call (da_cons (dx_var 0) (da_cons (dx_c fun _ => .str _) (da_cons (dx_var 1) da_nil))) (ln_cons (ln_cons (ln_cons ln_nil)))) da_nil)))) (dg_tup (dgs_cons (dg_name 2) (dgs_cons (dg_name 3) (dgs_cons (dg_name 4) dgs_nil))))) (ds_seq (ds_set 5 (by decide) (dx_lst da_nil)) (ds_seq (ds_for (by decide) (di_own (c := "Plan") (i := 3) (dx_var 2)) (dg_name 6) (ds_seq (ds_set 7 (by decide) (dx_lc (ms := []) (vs := [9, 10]) (di_enumU (da_cons (dx_var 3) da_nil)) (dg_tup (dgs_cons (dg_name 9) (dgs_cons (dg_name 10) dgs_nil))) (by decide) (dt_B (dx_meth (dx_var 2) (da_cons (dx_var 10) (da_cons (dx_var 6) da_nil)) (ln_up (ln_cons (ln_cons ln_nil))))) (dx_var 9))) (ds_if (dt_and (dt_test (dx_op od_B0 (dx_len (dx_var 7)) (dx_c fun _ => .int _))) (dt_test (dx_op od_ninU (dx_var 6) (dx_var 4)))) (ds_seq (ds_set 8 (by decide) (dx_op od_ixSeq (dx_lc (ms := []) (vs := [9, 10]) (di_enumU (da_cons (dx_var 3) da_nil)) (dg_tup (dgs_cons (dg_name 9) (dgs_cons (dg_name 10) dgs_nil))) (by decide) (dt_test (dx_op od_B0 (dx_len (dx_call (da_cons (dx_var 2) (da_cons (dx_var 10) (da_cons (dx_var 6) da_nil))) (ln_cons (ln_cons (ln_cons ln_nil))))) (dx_c fun _ => .int _))) (dx_var 9)) (dx_c fun _ => .int _))) (ds_expr (dx_app 5 (dx_tup (da_cons (dx_var 6) (da_cons (dx_op od_ixSeq (dx_var 7) (dx_c fun _ => .int _)) (da_cons (dx_var 8) (da_cons (dx_op od_ixSeq (dx_call (da_cons (dx_var 2) (da_cons (dx_op od_ixSeq (dx_var 3) (dx_var 8)) (da_cons (dx_var 6) da_nil))) (ln_cons (ln_cons (ln_cons ln_nil)))) (dx_un ud_neg (dx_c fun _ => .int _))) da_nil)))))))) ds_next))) (ds_ret (dx_var 5))))) h⟩
theorem c_missed (T : Tx K mg) : C8.Cal P w K mg base 12 "missed" (spP K 2 m_missed) [] := by
  obtain ⟨fd, F, ok⟩ := o_missed (P := P) (w := w) (base := base) T
  exact ⟨_, fd, ["plan", "house"], [], ok, T.f_missed, F.kp, F.bindsN fun _ _ _ _ _ _ us hl => match us, hl with | [_, _], _ => rfl, .nil⟩
/-! is_clean -/
def n_is_clean : List Str := ["plan", "house"]
theorem sc_is_clean : FnScope n_is_clean ["plan", "house"] d_is_clean.scope := ⟨rfl, rfl, rfl, by decide +kernel, rfl, by decide +kernel, by decide +kernel⟩
def b_is_clean : Sv :=
    (sRet (sOp eqO (sUn lenD (sCall m_missed (sCons (sVar 0) (sCons (sVar 1) sNil)))) (sC (.int 0))))
def m_is_clean : List D → Option Opd := runP 2 b_is_clean
theorem o_is_clean (T : Tx K mg) : ∃ fd, FunD K "is_clean" "is_clean" d_is_clean.params d_is_clean.body d_is_clean.scope [] [] (He.fAd K d_is_clean.at_) fd ∧ FnOk P w K mg base CX0 13 (He.fAd K d_is_clean.at_) fd ["plan", "house"] (spP K 2 m_is_clean) := by
  obtain ⟨fd, F⟩ := T.says.def_ 29 (d := d_is_clean) rfl
  refine ⟨fd, F, F.ok (k := 12) sc_is_clean (fun vs H Q E h => spP_len h) (fun cdv A outer s H vs Q E hr h => ?_)⟩
  have nd := sc_is_clean.nd
  exact ⟨_, PSs.nox
      (pss_one (ps_ret (pe_cmpR (op_eqD hr.units) (pe_callB call_len rfl T.g_len (by rfl) (pa_cons (C8.pe_c (c_missed T) hr (by decide) rfl (pa_cons (pv 0) (pa_cons (pv 1) pa_nil))) pa_nil)) pe_int (nomark _)))),
      fn_P (N := n_is_clean) (as := []) (f := b_is_clean)
      (ds_ret (dx_op od_eq (dx_len (dx_call (da_cons (dx_var 0) (da_cons (dx_var 1) da_nil)) (ln_cons (ln_cons ln_nil)))) (dx_c fun _ => .int _))) h⟩
theorem c_is_clean (T : Tx K mg) : C8.Cal P w K mg base 13 "is_clean" (spP K 2 m_is_clean) [] := by
  obtain ⟨fd, F, ok⟩ := o_is_clean (P := P) (w := w) (base := base) T
  exact ⟨_, fd, ["plan", "house"], [], ok, T.f_is_clean, F.kp, F.bindsN fun _ _ _ _ _ _ us hl => match us, hl with | [_, _], _ => rfl, .nil⟩
/-! _law_begins -/
def n__law_begins : List Str := ["_law_mine", "_law_its"]
theorem sc__law_begins : FnScope n__law_begins ["_law_mine", "_law_its"] d__law_begins.scope := ⟨rfl, rfl, rfl, by decide +kernel, rfl, by decide +kernel, by decide +kernel⟩
def b__law_begins : Sv :=
    (sRet (sOp eqO (sSlice (sVar 1) sNoPart (sPart (sUn lenD (sVar 0)))) (sVar 0)))
def m__law_begins : List D → Option Opd := runP 2 b__law_begins
theorem o__law_begins (T : Tx K mg) : ∃ fd, FunD K "_law_begins" "_law_begins" d__law_begins.params d__law_begins.body d__law_begins.scope [] [] (He.fAd K d__law_begins.at_) fd ∧ FnOk P w K mg base CX0 1 (He.fAd K d__law_begins.at_) fd ["_law_mine", "_law_its"] (spP K 2 m__law_begins) := by
  obtain ⟨fd, F⟩ := T.says.def_ 46 (d := d__law_begins) rfl
  refine ⟨fd, F, F.ok (k := 0) sc__law_begins (fun vs H Q E h => spP_len h) (fun cdv A outer s H vs Q E hr h => ?_)⟩
  have nd := sc__law_begins.nd
  exact ⟨_, PSs.nox
      (pss_one (ps_ret (pe_cmpR (op_eqD hr.units) (pe_slice sl_U (pv 1) po_none (po_some (pe_callB call_len rfl T.g_len (by rfl) (pa_cons (pv 0) pa_nil)))) (pv 0) (nomark _)))),
      fn_P (N := n__law_begins) (as := []) (f := b__law_begins)
      (ds_ret (dx_op od_eq (dx_slice (dx_var 1) do_none (do_some (dx_len (dx_var 0)))) (dx_var 0))) h⟩
theorem c__law_begins (T : Tx K mg) : C8.Cal P w K mg base 1 "_law_begins" (spP K 2 m__law_begins) [] := by
  obtain ⟨fd, F, ok⟩ := o__law_begins (P := P) (w := w) (base := base) T
  exact ⟨_, fd, ["_law_mine", "_law_its"], [], ok, T.f__law_begins, F.kp, F.bindsN fun _ _ _ _ _ _ us hl => match us, hl with | [_, _], _ => rfl, .nil⟩
/-! _law_tools_right -/
def n__law_tools_right : List Str := ["_law_plan_so", "_law_calls_so", "_law_whole_so", "_law_last_so", "_law_calm", "_law_gone", "_law_sizes", "_law_mine", "_law_its", "_law_late", "_law_ahead", "_law_told", "_law_own"]
theorem sc__law_tools_right : FnScope n__law_tools_right ["_law_plan_so", "_law_calls_so"] d__law_tools_right.scope := ⟨rfl, rfl, rfl, by decide +kernel, rfl, by decide +kernel, by decide +kernel⟩
def b__law_tools_right : Sv :=
    (sSeq (sPar 2 3 (sCall m_row (sCons (sVar 0) (sCons (sC (.str "all")) (sCons (sVar 1) sNil)))) (sCall m_row (sCons (sVar 0) (sCons (sC (.str "last")) (sCons (sVar 1) sNil)))))
    (sSeq (sAsg (sTup (sCons (sCall m_row (sCons (sVar 0) (sCons (sC (.str "strict")) (sCons (sVar 1) sNil)))) (sCons (sLc (cRel (sCall m_missed (sCons (sVar 0) (sCons (sVar 1) sNil)))) [] [12] (hName 12) sYes (sOp ixSeq (sVar 12) (sC (.int 0)))) sNil))) (hTup 2 (hCons (hName 4) (hCons (hName 5) hNil))))
    (sSeq (sIfS (sOr (sB (sOp neO (sUn sortU (sVar 2)) (sCall m__law_every (sCons (sVar 0) (sCons (sVar 1) sNil))))) (sB (sOp neO (sUn sortU (sOp addU (sUn listD (sVar 3)) (sVar 5))) (sUn sortU (sVar 2))))) (sRet (sC (.bl false))) sNext)
    (sSeq (sIfS (sB (sOp neO (sVar 3) (sUn tupleD (sLc (cRel (sVar 2)) [] [12] (hName 12) (sB (sOp ninU (sVar 12) (sVar 5))) (sVar 12))))) (sRet (sC (.bl false))) sNext)
    (sSeq (sSet 6 (sUn dictT (sOp ixSeq (sVar 0) (sC (.int 0)))))
    (sSeq (sFor (cZip (sCons (sVar 3) (sCons (sSlice (sVar 3) (sPart (sC (.int 1))) sNoPart) sNil))) (hTup 2 (hCons (hName 7) (hCons (hName 8) hNil))) (sIfS (sB (sOp ltDt (sTup (sCons (sOp mulU (sOp ixSeq (sOp ixDic (sVar 6) (sVar 8)) (sC (.int 0))) (sOp ixSeq (sOp ixDic (sVar 6) (sVar 7)) (sC (.int 1)))) (sCons (sVar 8) sNil))) (sTup (sCons (sOp mulU (sOp ixSeq (sOp ixDic (sVar 6) (sVar 7)) (sC (.int 0))) (sOp ixSeq (sOp ixDic (sVar 6) (sVar 8)) (sC (.int 1)))) (sCons (sVar 7) sNil))))) (sRet (sC (.bl false))) sNext))
    (sSeq (sSet 9 (sCall m_refused (sCons (sVar 0) (sCons (sVar 1) sNil))))
    (sSeq (sIfS (sOr (sB (sOp neO (sOp eqO (sVar 9) (sLst sNil)) (sOp eqO (sVar 5) (sLst sNil)))) (sB (sOp neO (sCall m_is_clean (sCons (sVar 0) (sCons (sVar 1) sNil))) (sOp eqO (sVar 5) (sLst sNil))))) (sRet (sC (.bl false))) sNext)
    (sSeq (sIfS (sOr (sB (sOp neO (sOp eqO (sVar 5) (sLst sNil)) (sOp eqO (sVar 2) (sVar 3)))) (sAnd (sB (sOp eqO (sVar 5) (sLst sNil))) (sB (sOp neO (sVar 4) (sVar 2))))) (sRet (sC (.bl false))) sNext)
    (sSeq (sIfS (sB (sOp neO (sVar 9) (sLst sNil))) (sSeq (sSet 10 (sSlice (sVar 1) sNoPart (sPart (sOp ixSeq (sVar 9) (sC (.int 0))))))
    (sSeq (sIfS (sNot (sB (sCall m__law_begins (sCons (sCall m_row (sCons (sVar 0) (sCons (sC (.str "strict")) (sCons (sVar 10) sNil)))) (sCons (sVar 4) sNil))))) (sRet (sC (.bl false))) sNext)
    (sSeq (sIfS (sNot (sB (sCall m__law_begins (sCons (sCall m_row (sCons (sVar 0) (sCons (sC (.str "last")) (sCons (sVar 10) sNil)))) (sCons (sVar 3) sNil))))) (sRet (sC (.bl false))) sNext)
    (sSeq (sSet 11 (sLst (sCons (sCall m_row (sCons (sVar 0) (sCons (sC (.str "strict")) (sCons (sVar 10) sNil)))) (sCons (sCall m_row (sCons (sVar 0) (sCons (sC (.str "last")) (sCons (sVar 10) sNil)))) (sCons (sCall m_row (sCons (sVar 0) (sCons (sC (.str "all")) (sCons (sVar 10) sNil)))) sNil)))))
    (sSeq (sIfS (sOr (sB (sOp neO (sVar 11) (sOp mulU (sLst (sCons (sOp ixSeq (sVar 11) (sC (.int 0))) sNil)) (sC (.int 3))))) (sB (sOp neO (sCall m_missed (sCons (sVar 0) (sCons (sVar 10) sNil))) (sLst sNil)))) (sRet (sC (.bl false))) sNext)
    (sSeq (sIfS (sB (sOp neO (sCall m_row (sCons (sVar 0) (sCons (sC (.str "strict")) (sCons (sSlice (sVar 1) sNoPart (sPart (sOp addU (sOp ixSeq (sVar 9) (sC (.int 0))) (sC (.int 1))))) sNil)))) (sOp ixSeq (sVar 11) (sC (.int 0))))) (sRet (sC (.bl false))) sNext)
    (sRet (sOp neO (sCall m_missed (sCons (sVar 0) (sCons (sSlice (sVar 1) sNoPart (sPart (sOp addU (sOp ixSeq (sVar 9) (sC (.int 0))) (sC (.int 1))))) sNil))) (sLst sNil))))))))) sNext)
    (sRet (sC (.bl true)))))))))))))
def m__law_tools_right : List D → Option Opd := runP 13 b__law_tools_right
theorem o__law_tools_right (T : Tx K mg) : ∃ fd, FunD K "_law_tools_right" "_law_tools_right" d__law_tools_right.params d__law_tools_right.body d__law_tools_right.scope [] [] (He.fAd K d__law_tools_right.at_) fd ∧ FnOk P w K mg base CX0 14 (He.fAd K d__law_tools_right.at_) fd ["_law_plan_so", "_law_calls_so"] (spP K 2 m__law_tools_right) := by
  obtain ⟨fd, F⟩ := T.says.def_ 47 (d := d__law_tools_right) rfl
  refine ⟨fd, F, F.ok (k := 13) sc__law_tools_right (fun vs H Q E h => spP_len h) (fun cdv A outer s H vs Q E hr h => ?_)⟩
  have nd := sc__law_tools_right.nd
  exact ⟨_, PSs.nox
      (pss_cons (ps_par (i := 2) (j := 3) rfl nd rfl rfl (by decide) rfl rfl (pa_cons (C8.pe_c (c_row T) hr (by decide) rfl (pa_cons (pv 0) (pa_cons pe_str (pa_cons (pv 1) pa_nil)))) (pa_cons (C8.pe_c (c_row T) hr (by decide) rfl (pa_cons (pv 0) (pa_cons pe_str (pa_cons (pv 1) pa_nil)))) pa_nil)) (by rfl)) (pss_cons (ps_asg (pe_tupF (pa_cons (C8.pe_c (c_row T) hr (by decide) rfl (pa_cons (pv 0) (pa_cons pe_str (pa_cons (pv 1) pa_nil)))) (pa_cons (pe_lc (own := [("_law_own", 12)]) rfl nd (pi_seq (C8.pe_c (c_missed T) hr (by decide) rfl (pa_cons (pv 0) (pa_cons (pv 1) pa_nil)))) (blkOk_by (N := n__law_tools_right) (sc := d__law_tools_right.scope) (by decide +kernel)) (fun _ _ _ _ _ => (pg_name (i := 12) nd rfl (Or.inl rfl))) (fun _ _ _ _ _ => pts_nil) (fun _ _ _ _ _ => (pe_ix ix_seq (pv 12) pe_int (fun _ _ => rfl)))) pa_nil))) (pg_tup rfl (pgs_cons (pg_name (i := 4) nd rfl (Or.inl rfl)) (pgs_cons (pg_name (i := 5) nd rfl (Or.inr rfl)) pgs_nil)))) (pss_cons (ps_if (PW.pt (pw_or (pt_cmpR (op_neD hr.units) (pe_callB (cr_sortU hr.units) rfl T.g_sorted (by rfl) (pa_cons (pv 2) pa_nil)) (C8.pe_c (c__law_every T) hr (by decide) rfl (pa_cons (pv 0) (pa_cons (pv 1) pa_nil))) (nomark _)) (pw_or1 (pt_cmpR (op_neD hr.units) (pe_callB (cr_sortU hr.units) rfl T.g_sorted (by rfl) (pa_cons (pe_op op_addU (pe_callTy call_list_of rfl T.g_list (by rfl) (pa_cons (pv 3) pa_nil)) (pv 5)) pa_nil)) (pe_callB (cr_sortU hr.units) rfl T.g_sorted (by rfl) (pa_cons (pv 2) pa_nil)) (nomark _))))) (pss_one (ps_ret pe_bl)) pss_nil) (pss_cons (ps_if (pt_cmpR (op_neD hr.units) (pv 3) (pe_callTy cr_tupF rfl T.g_tuple (by rfl) (pa_cons (pe_lc (own := [("_law_own", 12)]) rfl nd (pi_seq (pv 2)) (blkOk_by (N := n__law_tools_right) (sc := d__law_tools_right.scope) (by decide +kernel)) (fun _ _ _ _ _ => (pg_name (i := 12) nd rfl (Or.inl rfl))) (fun _ _ _ _ _ => (pts_one (pt_cmpR op_ninU (pv 12) (pv 5) (by rfl)))) (fun _ _ _ _ _ => (pv 12))) pa_nil)) (nomark _)) (pss_one (ps_ret pe_bl)) pss_nil) (pss_cons (ps_set (i := 6) nd rfl (Or.inl rfl) (pe_callTy (cr_dictT rfl) rfl T.g_dict (by rfl) (pa_cons (pe_ix ix_seq (pv 0) pe_int (fun _ _ => rfl)) pa_nil))) (pss_cons (ps_for PassesOwn.never rfl (RZ.pi_zipA rfl T.g_zip (pa_cons (pv 3) (pa_cons (pe_slice sl_U (pv 3) (po_some pe_int) po_none) pa_nil))) (pg_tup rfl (pgs_cons (pg_name (i := 7) nd rfl (Or.inl rfl)) (pgs_cons (pg_name (i := 8) nd rfl (Or.inl rfl)) pgs_nil))) (pss_one (ps_if (pt_cmpR (op_ltDt hr.units) (pe_tupF (pa_cons (pe_op op_mulU (pe_ix ix_seq (pe_dget (hu_of hr) (pv 6) (pv 8) (fun _ _ => rfl)) pe_int (fun _ _ => rfl)) (pe_ix ix_seq (pe_dget (hu_of hr) (pv 6) (pv 7) (fun _ _ => rfl)) pe_int (fun _ _ => rfl))) (pa_cons (pv 8) pa_nil))) (pe_tupF (pa_cons (pe_op op_mulU (pe_ix ix_seq (pe_dget (hu_of hr) (pv 6) (pv 7) (fun _ _ => rfl)) pe_int (fun _ _ => rfl)) (pe_ix ix_seq (pe_dget (hu_of hr) (pv 6) (pv 8) (fun _ _ => rfl)) pe_int (fun _ _ => rfl))) (pa_cons (pv 7) pa_nil))) (nomark _)) (pss_one (ps_ret pe_bl)) pss_nil))) (pss_cons (ps_set (i := 9) nd rfl (Or.inl rfl) (C8.pe_c (c_refused T) hr (by decide) rfl (pa_cons (pv 0) (pa_cons (pv 1) pa_nil)))) (pss_cons (ps_if (PW.pt (pw_or (pt_cmpR (op_neD hr.units) (pe_cmpR (op_eqD hr.units) (pv 9) (pe_lst pa_nil) (nomark _)) (pe_cmpR (op_eqD hr.units) (pv 5) (pe_lst pa_nil) (nomark _)) (nomark _)) (pw_or1 (pt_cmpR (op_neD hr.units) (C8.pe_c (c_is_clean T) hr (by decide) rfl (pa_cons (pv 0) (pa_cons (pv 1) pa_nil))) (pe_cmpR (op_eqD hr.units) (pv 5) (pe_lst pa_nil) (nomark _)) (nomark _))))) (pss_one (ps_ret pe_bl)) pss_nil) (pss_cons (ps_if (PW.pt (pw_or (pt_cmpR (op_neD hr.units) (pe_cmpR (op_eqD hr.units) (pv 5) (pe_lst pa_nil) (nomark _)) (pe_cmpR (op_eqD hr.units) (pv 2) (pv 3) (nomark _)) (nomark _)) (pw_or1 (PW.pt (pw_and (pt_cmpR (op_eqD hr.units) (pv 5) (pe_lst pa_nil) (nomark _)) (pw_and1 (pt_cmpR (op_neD hr.units) (pv 4) (pv 2) (nomark _)))))))) (pss_one (ps_ret pe_bl)) pss_nil) (pss_cons (ps_if (pt_cmpR (op_neD hr.units) (pv 9) (pe_lst pa_nil) (nomark _)) (pss_cons (ps_set (i := 10) nd rfl (Or.inl rfl) (pe_slice sl_U (pv 1) po_none (po_some (pe_ix ix_seq (pv 9) pe_int (fun _ _ => rfl))))) (pss_cons (ps_if (pt_not (pt_val (C8.pe_c (c__law_begins T) hr (by decide) rfl (pa_cons (C8.pe_c (c_row T) hr (by decide) rfl (pa_cons (pv 0) (pa_cons pe_str (pa_cons (pv 10) pa_nil)))) (pa_cons (pv 4) pa_nil))))) (pss_one (ps_ret pe_bl)) pss_nil) (pss_cons (ps_if (pt_not (pt_val (C8.pe_c (c__law_begins T) hr (by decide) rfl (pa_cons (C8.pe_c (c_row T) hr (by decide) rfl (pa_cons (pv 0) (pa_cons pe_str (pa_cons (pv 10) pa_nil)))) (pa_cons (pv 3) pa_nil))))) (pss_one (ps_ret pe_bl)) pss_nil) (pss_cons (ps_set (i := 11) nd rfl (Or.inl rfl) (pe_lst (pa_cons (C8.pe_c (c_row T) hr (by decide) rfl (pa_cons (pv 0) (pa_cons pe_str (pa_cons (pv 10) pa_nil)))) (pa_cons (C8.pe_c (c_row T) hr (by decide) rfl (pa_cons (pv 0) (pa_cons pe_str (pa_cons (pv 10) pa_nil)))) (pa_cons (C8.pe_c (c_row T) hr (by decide) rfl (pa_cons (pv 0) (pa_cons pe_str (pa_cons (pv 10) pa_nil)))) pa_nil))))) (pss_cons (ps_if (PW.pt (pw_or (pt_cmpR (op_neD hr.units) (pv 11) (pe_op op_mulU (pe_lst (pa_cons (pe_ix ix_seq (pv 11) pe_int (fun _ _ => rfl)) pa_nil)) pe_int) (nomark _)) (pw_or1 (pt_cmpR (op_neD hr.units) (C8.pe_c (c_missed T) hr (by decide) rfl (pa_cons (pv 0) (pa_cons (pv 10) pa_nil))) (pe_lst pa_nil) (nomark _))))) (pss_one (ps_ret pe_bl)) pss_nil) (pss_cons (ps_if (pt_cmpR (op_neD hr.units) (C8.pe_c (c_row T) hr (by decide) rfl (pa_cons (pv 0) (pa_cons pe_str (pa_cons (pe_slice sl_U (pv 1) po_none (po_some (pe_op op_addU (pe_ix ix_seq (pv 9) pe_int (fun _ _ => rfl)) pe_int))) pa_nil)))) (pe_ix ix_seq (pv 11) pe_int (fun _ _ => rfl)) (nomark _)) (pss_one (ps_ret pe_bl)) pss_nil) (pss_one (ps_ret (pe_cmpR (op_neD hr.units) (C8.pe_c (c_missed T) hr (by decide) rfl (pa_cons (pv 0) (pa_cons (pe_slice sl_U (pv 1) po_none (po_some (pe_op op_addU (pe_ix ix_seq (pv 9) pe_int (fun _ _ => rfl)) pe_int))) pa_nil))) (pe_lst pa_nil) (nomark _)))))))))) pss_nil) (pss_one (ps_ret pe_bl)))))))))))),
      fn_P (N := n__law_tools_right) (as := [2, 3, 4, 5, 6, 7, 8, 9, 10, 11]) (f := b__law_tools_right)
      (ds_seq (ds_par (i := 2) (j := 3) (by decide) (by decide) (dx_call (da_cons (dx_var 0) (da_cons (dx_c fun _ => .str _) (da_cons (dx_var 1) da_nil))) (ln_cons (ln_cons (ln_cons ln_nil)))) (dx_call (da_cons (dx_var 0) (da_cons (dx_c fun _ => .str _) (da_cons (dx_var 1) da_nil))) (ln_cons (ln_cons (ln_cons ln_nil))))) (ds_seq (ds_asg (by decide) (dx_tup (da_cons (dx_call (da_cons (dx_var 0) (da_cons (dx_c fun _ => .str _) (da_cons (dx_var 1) da_nil))) (ln_cons (ln_cons (ln_cons ln_nil)))) (da_cons (dx_lc (ms := []) (vs := [12]) (di_rel (dx_call (da_cons (dx_var 0) (da_cons (dx_var 1) da_nil)) (ln_cons (ln_cons ln_nil)))) (dg_name 12) (by decide) dt_yes (dx_op od_ixSeq (dx_var 12) (dx_c fun _ => .int _))) da_nil))) (dg_tup (dgs_cons (dg_name 4) (dgs_cons (dg_name 5) dgs_nil)))) (ds_seq (ds_if (dt_or (dt_test (dx_op od_ne (dx_cb1 ud_sortU (dx_var 2)) (dx_call (da_cons (dx_var 0) (da_cons (dx_var 1) da_nil)) (ln_cons (ln_cons ln_nil))))) (dt_test (dx_op od_ne (dx_cb1 ud_sortU (dx_op od_addU (dx_cb1 ud_list (dx_var 3)) (dx_var 5))) (dx_cb1 ud_sortU (dx_var 2))))) (ds_ret (dx_c fun _ => .bl _)) ds_next) (ds_seq (ds_if (dt_test (dx_op od_ne (dx_var 3) (dx_cb1 ud_tuple (dx_lc (ms := []) (vs := [12]) (di_rel (dx_var 2)) (dg_name 12) (by decide) (dt_test (dx_op od_ninU (dx_var 12) (dx_var 5))) (dx_var 12))))) (ds_ret (dx_c fun _ => .bl _)) ds_next) (ds_seq (ds_set 6 (by decide) (dx_cb1 ud_dictT (dx_op od_ixSeq (dx_var 0) (dx_c fun _ => .int _)))) (ds_seq (ds_for (by decide) (di_zip (da_cons (dx_var 3) (da_cons (dx_slice (dx_var 3) (do_some (dx_c fun _ => .int _)) do_none) da_nil))) (dg_tup (dgs_cons (dg_name 7) (dgs_cons (dg_name 8) dgs_nil))) (ds_if (dt_test (dx_op od_ltDt (dx_tup (da_cons (dx_op od_mulU (dx_op od_ixSeq (dx_dget (dx_var 6) (dx_var 8)) (dx_c fun _ => .int _)) (dx_op od_ixSeq (dx_dget (dx_var 6) (dx_var 7)) (dx_c fun _ => .int _))) (da_cons (dx_var 8) da_nil))) (dx_tup (da_cons (dx_op od_mulU (dx_op od_ixSeq (dx_dget (dx_var 6) (dx_var 7)) (dx_c fun _ => .int _)) (dx_op od_ixSeq (dx_dget (dx_var 6) (dx_var 8)) (dx_c fun _ => .int _))) (da_cons (dx_var 7) da_nil))))) (ds_ret (dx_c fun _ => .bl _)) ds_next)) (ds_seq (ds_set 9 (by decide) (dx_call (da_cons (dx_var 0) (da_cons (dx_var 1) da_nil)) (ln_cons (ln_cons ln_nil)))) (ds_seq (ds_if (dt_or (dt_test (dx_op od_ne (dx_op od_eq (dx_var 9) (dx_lst da_nil)) (dx_op od_eq (dx_var 5) (dx_lst da_nil)))) (dt_test (dx_op od_ne (dx_call (da_cons (dx_var 0) (da_cons (dx_var 1) da_nil)) (ln_cons (ln_cons ln_nil))) (dx_op od_eq (dx_var 5) (dx_lst da_nil))))) (ds_ret (dx_c fun _ => .bl _)) ds_next) (ds_seq (ds_if (dt_or (dt_test (dx_op od_ne (dx_op od_eq (dx_var 5) (dx_lst da_nil)) (dx_op od_eq (dx_var 2) (dx_var 3)))) (dt_and (dt_test (dx_op od_eq (dx_var 5) (dx_lst da_nil))) (dt_test (dx_op od_ne (dx_var 4) (dx_var 2))))) (ds_ret (dx_c fun _ => .bl _)) ds_next) (ds_seq (ds_if (dt_test (dx_op od_ne (dx_var 9) (dx_lst da_nil))) (ds_seq (ds_set 10 (by decide) (dx_slice (dx_var 1) do_none (do_some (dx_op od_ixSeq (dx_var 9) (dx_c fun _ => .int _))))) (ds_seq (ds_if (dt_not (dt_B (dx_call (da_cons (dx_call (da_cons (dx_var 0) (da_cons (dx_c fun _ => .str _) (da_cons (dx_var 10) da_nil))) (ln_cons (ln_cons (ln_cons ln_nil)))) (da_cons (dx_var 4) da_nil)) (ln_cons (ln_cons ln_nil))))) (ds_ret (dx_c fun _ => .bl _)) ds_next) (ds_seq (ds_if (dt_not (dt_B (dx_call (da_cons (dx_call (da_cons (dx_var 0) (da_cons (dx_c fun _ => .str _) (da_cons (dx_var 10) da_nil))) (ln_cons (ln_cons (ln_cons ln_nil)))) (da_cons (dx_var 3) da_nil)) (ln_cons (ln_cons ln_nil))))) (ds_ret (dx_c fun _ => .bl _)) ds_next) (ds_seq (ds_set 11 (by decide) (dx_lst (da_cons (dx_call (da_cons (dx_var 0) (da_cons (dx_c fun _ => .str _) (da_cons (dx_var 10) da_nil))) (ln_cons (ln_cons (ln_cons ln_nil)))) (da_cons (dx_call (da_cons (dx_var 0) (da_cons (dx_c fun _ => .str _) (da_cons (dx_var 10) da_nil))) (ln_cons (ln_cons (ln_cons ln_nil)))) (da_cons (dx_call (da_cons (dx_var 0) (da_cons (dx_c fun _ => .str _) (da_cons (dx_var 10) da_nil))) (ln_cons (ln_cons (ln_cons ln_nil)))) da_nil))))) (ds_seq (ds_if (dt_or (dt_test (dx_op od_ne (dx_var 11) (dx_op od_mulU (dx_lst (da_cons (dx_op od_ixSeq (dx_var 11) (dx_c fun _ => .int _)) da_nil)) (dx_c fun _ => .int _)))) (dt_test (dx_op od_ne (dx_call (da_cons (dx_var 0) (da_cons (dx_var 10) da_nil)) (ln_cons (ln_cons ln_nil))) (dx_lst da_nil)))) (ds_ret (dx_c fun _ => .bl _)) ds_next) (ds_seq (ds_if (dt_test (dx_op od_ne (dx_call (da_cons (dx_var 0) (da_cons (dx_c fun _ => .str _) (da_cons (dx_slice (dx_var 1) do_none (do_some (dx_op od_addU (dx_op od_ixSeq (dx_var 9) (dx_c fun _ => .int _)) (dx_c fun _ => .int _)))) da_nil))) (ln_cons (ln_cons (ln_cons ln_nil)))) (dx_op od_ixSeq (dx_var 11) (dx_c fun _ => .int _)))) (ds_ret (dx_c fun _ => .bl _)) ds_next) (ds_ret (dx_op od_ne (dx_call (da_cons (dx_var 0) (da_cons (dx_slice (dx_var 1) do_none (do_some (dx_op od_addU (dx_op od_ixSeq (dx_var 9) (dx_c fun _ => .int _)) (dx_c fun _ => .int _)))) da_nil)) (ln_cons (ln_cons ln_nil))) (dx_lst da_nil))))))))) ds_next) (ds_ret (dx_c fun _ => .bl _)))))))))))) h⟩
theorem c__law_tools_right (T : Tx K mg) : C8.Cal P w K mg base 14 "_law_tools_right" (spP K 2 m__law_tools_right) [] := by
  obtain ⟨fd, F, ok⟩ := o__law_tools_right (P := P) (w := w) (base := base) T
  exact ⟨_, fd, ["_law_plan_so", "_law_calls_so"], [], ok, T.f__law_tools_right, F.kp, F.bindsN fun _ _ _ _ _ _ us hl => match us, hl with | [_, _], _ => rfl, .nil⟩
/-! goes_along -/
def n_goes_along : List Str := ["plan", "house", "own", "calls", "one", "other"]
theorem sc_goes_along : FnScope n_goes_along ["plan", "house"] d_goes_along.scope := ⟨rfl, rfl, rfl, by decide +kernel, rfl, by decide +kernel, by decide +kernel⟩
def b_goes_along : Sv :=
    (sSeq (sAsg (sTup (sCons (sMake m_Plan (sCons (sVar 0) sNil)) (sCons (sCall (m_tupled 6) (sCons (sVar 1) sNil)) sNil))) (hTup 2 (hCons (hName 2) (hCons (hName 3) hNil))))
    (sSeq (sExpr (sMeth "Plan" m_Plan_look_commits (sVar 2) (sCons (sVar 3) sNil)))
    (sRet (sUn allD (sLc (cZip (sCons (sVar 3) (sCons (sSlice (sVar 3) (sPart (sC (.int 1))) sNoPart) sNil))) [] [4, 5] (hTup 2 (hCons (hName 4) (hCons (hName 5) hNil))) sYes (sOrV (sOp eqO (sVar 4) (sVar 5)) (sMeth "Plan" m_Plan_is_behind (sVar 2) (sCons (sVar 5) (sCons (sVar 4) sNil)))))))))
def m_goes_along : List D → Option Opd := runP 6 b_goes_along
theorem o_goes_along (T : Tx K mg) : ∃ fd, FunD K "goes_along" "goes_along" d_goes_along.params d_goes_along.body d_goes_along.scope [] [] (He.fAd K d_goes_along.at_) fd ∧ FnOk P w K mg base CX0 10 (He.fAd K d_goes_along.at_) fd ["plan", "house"] (spP K 2 m_goes_along) := by
  obtain ⟨fd, F⟩ := T.says.def_ 18 (d := d_goes_along) rfl
  refine ⟨fd, F, F.ok (k := 9) sc_goes_along (fun vs H Q E h => spP_len h) (fun cdv A outer s H vs Q E hr h => ?_)⟩
  have nd := sc_goes_along.nd
  exact ⟨_, PSs.nox
      (pss_cons (ps_asg (pe_tupF (pa_cons (C8.pe_mk (mk_Plan T) hr (by decide) rfl (pa_cons (pv 0) pa_nil)) (pa_cons (C8.pe_c (c_tupled T 6) hr (by decide) rfl (pa_cons (pv 1) pa_nil)) pa_nil))) (pg_tup rfl (pgs_cons (pg_name (i := 2) nd rfl (Or.inr rfl)) (pgs_cons (pg_name (i := 3) nd rfl (Or.inl rfl)) pgs_nil)))) (pss_cons (ps_expr (SlX.pe_methSl (pv 2) T.k_Plan T.m_Plan_look_commits (r_Plan_look_commits T) (hr.mono (by decide)) pass0 (pa_cons (pv 3) pa_nil))) (pss_one (ps_ret (pe_callB (cr_all rfl) rfl T.g_all (by rfl) (pa_cons (pe_lc (own := [("one", 4), ("other", 5)]) rfl nd (RZ.pi_zipA rfl T.g_zip (pa_cons (pv 3) (pa_cons (pe_slice sl_U (pv 3) (po_some pe_int) po_none) pa_nil))) (blkOk_by (N := n_goes_along) (sc := d_goes_along.scope) (by decide +kernel)) (fun _ _ _ _ _ => (pg_tup rfl (pgs_cons (pg_name (i := 4) nd rfl (Or.inl rfl)) (pgs_cons (pg_name (i := 5) nd rfl (Or.inl rfl)) pgs_nil)))) (fun _ _ _ _ _ => pts_nil) (fun _ _ _ _ _ => (pe_or (pe_cmpR (op_eqD hr.units) (pv 4) (pv 5) (nomark _)) (pe_one (SlX.pe_methSl (pv 2) T.k_Plan T.m_Plan_is_behind (r_Plan_is_behind T) (hr.mono (by decide)) pass0 (pa_cons (pv 5) (pa_cons (pv 4) pa_nil))))))) pa_nil)))))),
      fn_P (N := n_goes_along) (as := [2, 3]) (f := b_goes_along)
      (ds_seq (ds_asg (by decide) (dx_tup (da_cons (dx_make (da_cons (dx_var 0) da_nil) (ln_cons ln_nil)) (da_cons (dx_call (da_cons (dx_var 1) da_nil) (ln_cons ln_nil)) da_nil))) (dg_tup (dgs_cons (dg_name 2) (dgs_cons (dg_name 3) dgs_nil)))) (ds_seq (ds_expr (dx_meth (dx_var 2) (da_cons (dx_var 3) da_nil) (ln_up (ln_cons ln_nil)))) (ds_ret (dx_cb1 ud_all (dx_lc (ms := []) (vs := [4, 5]) (di_zip (da_cons (dx_var 3) (da_cons (dx_slice (dx_var 3) (do_some (dx_c fun _ => .int _)) do_none) da_nil))) (dg_tup (dgs_cons (dg_name 4) (dgs_cons (dg_name 5) dgs_nil))) (by decide) dt_yes (dx_orV (dx_op od_eq (dx_var 4) (dx_var 5)) (dx_meth (dx_var 2) (da_cons (dx_var 5) (da_cons (dx_var 4) da_nil)) (ln_up (ln_cons (ln_cons ln_nil)))))))))) h⟩
theorem c_goes_along (T : Tx K mg) : C8.Cal P w K mg base 10 "goes_along" (spP K 2 m_goes_along) [] := by
  obtain ⟨fd, F, ok⟩ := o_goes_along (P := P) (w := w) (base := base) T
  exact ⟨_, fd, ["plan", "house"], [], ok, T.f_goes_along, F.kp, F.bindsN fun _ _ _ _ _ _ us hl => match us, hl with | [_, _], _ => rfl, .nil⟩
/-! _law_right -/
def n__law_right : List Str := ["_law_box_here", "_law_lap", "_law_plan_so", "_law_calls_so", "_law_ever", "_law_gone", "_law_few", "_law_less", "_law_own"]
theorem sc__law_right : FnScope n__law_right ["_law_box_here"] d__law_right.scope := ⟨rfl, rfl, rfl, by decide +kernel, rfl, by decide +kernel, by decide +kernel⟩
def b__law_right : Sv :=
    (sSeq (sFor (cRng1 (sCons (sC (.int 3)) sNil)) (hName 1) (sSeq (sSet 2 (sCallI 0 m__law_plan (sCons (sOp addU (sC (.int 1)) (sCallI 0 m__law_take (sCons (sC (.int 8)) sNil))) (sCons (sOp addU (sC (.int 1)) (sCallI 0 m__law_take (sCons (sC (.int 7)) sNil))) (sCons (sC (.int 3)) (sCons (sCallI 0 m__law_take (sCons (sC (.int 3)) sNil)) sNil))))))
    (sSeq (sAsg (sTup (sCons (sCallI 0 m__law_calls (sCons (sVar 2) (sCons (sOp addU (sC (.int 1)) (sCallI 0 m__law_take (sCons (sC (.int 6)) sNil))) (sCons (sC (.bl true)) sNil)))) (sCons (sCall m_can_miss (sCons (sVar 2) sNil)) sNil))) (hTup 2 (hCons (hName 3) (hCons (hName 4) hNil))))
    (sSeq (sIfS (sOr (sNot (sB (sCall m__law_tools_right (sCons (sVar 2) (sCons (sVar 3) sNil))))) (sNot (sB (sCall m_goes_along (sCons (sVar 2) (sCons (sVar 3) sNil)))))) (sRet (sC (.bl false))) sNext)
    (sSeq (sIfS (sNot (sB (sCall m__law_tools_right (sCons (sVar 2) (sCons (sCallI 0 m__law_calls (sCons (sVar 2) (sCons (sCallI 0 m__law_take (sCons (sC (.int 6)) sNil)) (sCons (sC (.bl false)) sNil)))) sNil))))) (sRet (sC (.bl false))) sNext)
    (sSeq (sSet 5 (sLc (cRel (sCall m_missed (sCons (sVar 2) (sCons (sVar 3) sNil)))) [] [8] (hName 8) sYes (sOp ixSeq (sVar 8) (sC (.int 0)))))
    (sSeq (sSet 6 (sOp addU (sUn tupleD (sLc (cRel (sSlice (sVar 3) sNoPart (sPart (sUn negD (sC (.int 1)))))) [] [8] (hName 8) (sB (sOp eqO (sCallI 0 m__law_take (sCons (sC (.int 2)) sNil)) (sC (.int 0)))) (sVar 8))) (sSlice (sVar 3) (sPart (sUn negD (sC (.int 1)))) sNoPart)))
    (sSeq (sSet 7 (sLc (cRel (sCall m_missed (sCons (sVar 2) (sCons (sVar 6) sNil)))) [] [8] (hName 8) sYes (sOp ixSeq (sVar 8) (sC (.int 0)))))
    (sSeq (sIfS (sOr (sB (sOp neO (sLc (cRel (sVar 7)) [] [8] (hName 8) (sB (sOp ninU (sVar 8) (sVar 5))) (sVar 8)) (sLst sNil))) (sB (sOp neO (sLc (cRel (sVar 5)) [] [8] (hName 8) (sB (sOp ninU (sVar 8) (sVar 4))) (sVar 8)) (sLst sNil)))) (sRet (sC (.bl false))) sNext)
    (sIfS (sB (sOp neO (sCall m_missed (sCons (sVar 2) (sCons (sSlice (sVar 3) (sPart (sUn negD (sC (.int 1)))) sNoPart) sNil))) (sLst sNil))) (sRet (sC (.bl false))) sNext))))))))))
    (sRet (sC (.bl true))))
def m__law_right : D → List D → Option (Opd × D) := runI 9 b__law_right
theorem o__law_right (T : Tx K mg) : ∃ fd, FunD K "_law_right" "_law_right" d__law_right.params d__law_right.body d__law_right.scope [] [] (He.fAd K d__law_right.at_) fd ∧ FnOk P w K mg base CX0 15 (He.fAd K d__law_right.at_) fd ["_law_box_here"] (spI K 0 m__law_right) := by
  obtain ⟨fd, F⟩ := T.says.def_ 48 (d := d__law_right) rfl
  refine ⟨fd, F, F.ok (k := 14) sc__law_right (fun vs H Q E h => spI_len h) (fun cdv A outer s H vs Q E hr h => ?_)⟩
  have nd := sc__law_right.nd
  exact ⟨_, PSs.nox
      (pss_cons (ps_for PassesOwn.never rfl (pi_range1 rfl T.g_range (pa_cons pe_int pa_nil)) (pg_name (i := 1) nd rfl (Or.inl rfl)) (pss_cons (ps_set (i := 2) nd rfl (Or.inl rfl) (C8.pe_c (c__law_plan T) hr (by decide) rfl (pa_cons (pv 0) (pa_cons (pe_op op_addU pe_int (C8.pe_c (c__law_take T) hr (by decide) rfl (pa_cons (pv 0) (pa_cons pe_int pa_nil)))) (pa_cons (pe_op op_addU pe_int (C8.pe_c (c__law_take T) hr (by decide) rfl (pa_cons (pv 0) (pa_cons pe_int pa_nil)))) (pa_cons pe_int (pa_cons (C8.pe_c (c__law_take T) hr (by decide) rfl (pa_cons (pv 0) (pa_cons pe_int pa_nil))) pa_nil))))))) (pss_cons (ps_asg (pe_tupF (pa_cons (C8.pe_c (c__law_calls T) hr (by decide) rfl (pa_cons (pv 0) (pa_cons (pv 2) (pa_cons (pe_op op_addU pe_int (C8.pe_c (c__law_take T) hr (by decide) rfl (pa_cons (pv 0) (pa_cons pe_int pa_nil)))) (pa_cons pe_bl pa_nil))))) (pa_cons (C8.pe_c (c_can_miss T) hr (by decide) rfl (pa_cons (pv 2) pa_nil)) pa_nil))) (pg_tup rfl (pgs_cons (pg_name (i := 3) nd rfl (Or.inl rfl)) (pgs_cons (pg_name (i := 4) nd rfl (Or.inr rfl)) pgs_nil)))) (pss_cons (ps_if (PW.pt (pw_or (pt_not (pt_val (C8.pe_c (c__law_tools_right T) hr (by decide) rfl (pa_cons (pv 2) (pa_cons (pv 3) pa_nil))))) (pw_or1 (pt_not (pt_val (C8.pe_c (c_goes_along T) hr (by decide) rfl (pa_cons (pv 2) (pa_cons (pv 3) pa_nil)))))))) (pss_one (ps_ret pe_bl)) pss_nil) (pss_cons (ps_if (pt_not (pt_val (C8.pe_c (c__law_tools_right T) hr (by decide) rfl (pa_cons (pv 2) (pa_cons (C8.pe_c (c__law_calls T) hr (by decide) rfl (pa_cons (pv 0) (pa_cons (pv 2) (pa_cons (C8.pe_c (c__law_take T) hr (by decide) rfl (pa_cons (pv 0) (pa_cons pe_int pa_nil))) (pa_cons pe_bl pa_nil))))) pa_nil))))) (pss_one (ps_ret pe_bl)) pss_nil) (pss_cons (ps_set (i := 5) nd rfl (Or.inr rfl) (pe_lc (own := [("_law_own", 8)]) rfl nd (pi_seq (C8.pe_c (c_missed T) hr (by decide) rfl (pa_cons (pv 2) (pa_cons (pv 3) pa_nil)))) (blkOk_by (N := n__law_right) (sc := d__law_right.scope) (by decide +kernel)) (fun _ _ _ _ _ => (pg_name (i := 8) nd rfl (Or.inl rfl))) (fun _ _ _ _ _ => pts_nil) (fun _ _ _ _ _ => (pe_ix ix_seq (pv 8) pe_int (fun _ _ => rfl))))) (pss_cons (ps_set (i := 6) nd rfl (Or.inl rfl) (pe_op op_addU (pe_callTy cr_tupF rfl T.g_tuple (by rfl) (pa_cons (pe_lc (own := [("_law_own", 8)]) rfl nd (pi_seq (pe_slice sl_U (pv 3) po_none (po_some (pe_un un_neg pe_int)))) (blkOk_by (N := n__law_right) (sc := d__law_right.scope) (by decide +kernel)) (fun _ _ _ _ _ => (pg_name (i := 8) nd rfl (Or.inl rfl))) (fun _ _ _ _ _ => (pts_one (pt_cmpR (op_eqD hr.units) (C8.pe_c (c__law_take T) hr (by decide) rfl (pa_cons (pv 0) (pa_cons pe_int pa_nil))) pe_int (nomark _)))) (fun _ _ _ _ _ => (pv 8))) pa_nil)) (pe_slice sl_U (pv 3) (po_some (pe_un un_neg pe_int)) po_none))) (pss_cons (ps_setLc (i := 7) (own := [("_law_own", 8)]) rfl nd rfl rfl (sw_true rfl rfl rfl (by decide +kernel)) (pi_seq (C8.pe_c (c_missed T) hr (by decide) rfl (pa_cons (pv 2) (pa_cons (pv 6) pa_nil)))) (blkOk_by (N := n__law_right) (sc := d__law_right.scope) (by decide +kernel)) (fun _ _ _ _ _ => (pg_name (i := 8) nd rfl (Or.inl rfl))) (fun _ _ _ _ _ => pts_nil) (fun _ _ _ _ _ => (pe_ix ix_seq (pv 8) pe_int (fun _ _ => rfl)))) (pss_cons (ps_if (PW.pt (pw_or (pt_cmpR (op_neD hr.units) (pe_lc (own := [("_law_own", 8)]) rfl nd (pi_seq (pv 7)) (blkOk_by (N := n__law_right) (sc := d__law_right.scope) (by decide +kernel)) (fun _ _ _ _ _ => (pg_name (i := 8) nd rfl (Or.inl rfl))) (fun _ _ _ _ _ => (pts_one (pt_cmpR op_ninU (pv 8) (pv 5) (by rfl)))) (fun _ _ _ _ _ => (pv 8))) (pe_lst pa_nil) (nomark _)) (pw_or1 (pt_cmpR (op_neD hr.units) (pe_lc (own := [("_law_own", 8)]) rfl nd (pi_seq (pv 5)) (blkOk_by (N := n__law_right) (sc := d__law_right.scope) (by decide +kernel)) (fun _ _ _ _ _ => (pg_name (i := 8) nd rfl (Or.inl rfl))) (fun _ _ _ _ _ => (pts_one (pt_cmpR op_ninU (pv 8) (pv 4) (by rfl)))) (fun _ _ _ _ _ => (pv 8))) (pe_lst pa_nil) (nomark _))))) (pss_one (ps_ret pe_bl)) pss_nil) (pss_one (ps_if (pt_cmpR (op_neD hr.units) (C8.pe_c (c_missed T) hr (by decide) rfl (pa_cons (pv 2) (pa_cons (pe_slice sl_U (pv 3) (po_some (pe_un un_neg pe_int)) po_none) pa_nil))) (pe_lst pa_nil) (nomark _)) (pss_one (ps_ret pe_bl)) pss_nil))))))))))) (pss_one (ps_ret pe_bl))),
      fn_I (N := n__law_right) (as := [1, 2, 3, 4, 5, 6, 7]) (f := b__law_right) 
      (ds_seq (ds_for (by decide) (di_rng1 (da_cons (dx_c fun _ => .int _) da_nil)) (dg_name 1) (ds_seq (ds_set 2 (by decide) (dx_callI (i := 0) (da_cons (dx_op od_addU (dx_c fun _ => .int _) (dx_callI (i := 0) (da_cons (dx_c fun _ => .int _) da_nil) (ln_cons ln_nil))) (da_cons (dx_op od_addU (dx_c fun _ => .int _) (dx_callI (i := 0) (da_cons (dx_c fun _ => .int _) da_nil) (ln_cons ln_nil))) (da_cons (dx_c fun _ => .int _) (da_cons (dx_callI (i := 0) (da_cons (dx_c fun _ => .int _) da_nil) (ln_cons ln_nil)) da_nil)))) (ln_cons (ln_cons (ln_cons (ln_cons ln_nil)))))) (ds_seq (ds_asg (by decide) (dx_tup (da_cons (dx_callI (i := 0) (da_cons (dx_var 2) (da_cons (dx_op od_addU (dx_c fun _ => .int _) (dx_callI (i := 0) (da_cons (dx_c fun _ => .int _) da_nil) (ln_cons ln_nil))) (da_cons (dx_c fun _ => .bl _) da_nil))) (ln_cons (ln_cons (ln_cons ln_nil)))) (da_cons (dx_call (da_cons (dx_var 2) da_nil) (ln_cons ln_nil)) da_nil))) (dg_tup (dgs_cons (dg_name 3) (dgs_cons (dg_name 4) dgs_nil)))) (ds_seq (ds_if (dt_or (dt_not (dt_B (dx_call (da_cons (dx_var 2) (da_cons (dx_var 3) da_nil)) (ln_cons (ln_cons ln_nil))))) (dt_not (dt_B (dx_call (da_cons (dx_var 2) (da_cons (dx_var 3) da_nil)) (ln_cons (ln_cons ln_nil)))))) (ds_ret (dx_c fun _ => .bl _)) ds_next) (ds_seq (ds_if (dt_not (dt_B (dx_call (da_cons (dx_var 2) (da_cons (dx_callI (i := 0) (da_cons (dx_var 2) (da_cons (dx_callI (i := 0) (da_cons (dx_c fun _ => .int _) da_nil) (ln_cons ln_nil)) (da_cons (dx_c fun _ => .bl _) da_nil))) (ln_cons (ln_cons (ln_cons ln_nil)))) da_nil)) (ln_cons (ln_cons ln_nil))))) (ds_ret (dx_c fun _ => .bl _)) ds_next) (ds_seq (ds_set 5 (by decide) (dx_lc (ms := []) (vs := [8]) (di_rel (dx_call (da_cons (dx_var 2) (da_cons (dx_var 3) da_nil)) (ln_cons (ln_cons ln_nil)))) (dg_name 8) (by decide) dt_yes (dx_op od_ixSeq (dx_var 8) (dx_c fun _ => .int _)))) (ds_seq (ds_set 6 (by decide) (dx_op od_addU (dx_cb1 ud_tuple (dx_lc (ms := []) (vs := [8]) (di_rel (dx_slice (dx_var 3) do_none (do_some (dx_un ud_neg (dx_c fun _ => .int _))))) (dg_name 8) (by decide) (dt_test (dx_op od_eq (dx_callI (i := 0) (da_cons (dx_c fun _ => .int _) da_nil) (ln_cons ln_nil)) (dx_c fun _ => .int _))) (dx_var 8))) (dx_slice (dx_var 3) (do_some (dx_un ud_neg (dx_c fun _ => .int _))) do_none))) (ds_seq (ds_set 7 (by decide) (dx_lc (ms := []) (vs := [8]) (di_rel (dx_call (da_cons (dx_var 2) (da_cons (dx_var 6) da_nil)) (ln_cons (ln_cons ln_nil)))) (dg_name 8) (by decide) dt_yes (dx_op od_ixSeq (dx_var 8) (dx_c fun _ => .int _)))) (ds_seq (ds_if (dt_or (dt_test (dx_op od_ne (dx_lc (ms := []) (vs := [8]) (di_rel (dx_var 7)) (dg_name 8) (by decide) (dt_test (dx_op od_ninU (dx_var 8) (dx_var 5))) (dx_var 8)) (dx_lst da_nil))) (dt_test (dx_op od_ne (dx_lc (ms := []) (vs := [8]) (di_rel (dx_var 5)) (dg_name 8) (by decide) (dt_test (dx_op od_ninU (dx_var 8) (dx_var 4))) (dx_var 8)) (dx_lst da_nil)))) (ds_ret (dx_c fun _ => .bl _)) ds_next) (ds_if (dt_test (dx_op od_ne (dx_call (da_cons (dx_var 2) (da_cons (dx_slice (dx_var 3) (do_some (dx_un ud_neg (dx_c fun _ => .int _))) do_none) da_nil)) (ln_cons (ln_cons ln_nil))) (dx_lst da_nil))) (ds_ret (dx_c fun _ => .bl _)) ds_next)))))))))) (ds_ret (dx_c fun _ => .bl _))) (by decide) h⟩
theorem c__law_right (T : Tx K mg) : C8.Cal P w K mg base 15 "_law_right" (spI K 0 m__law_right) [] := by
  obtain ⟨fd, F, ok⟩ := o__law_right (P := P) (w := w) (base := base) T
  exact ⟨_, fd, ["_law_box_here"], [], ok, T.f__law_right, F.kp, F.bindsN fun _ _ _ _ _ _ us hl => match us, hl with | [_], _ => rfl, .nil⟩
/-! _law_box -/
def n__law_box : List Str := ["_law_script", "_law_k", "_law_cell"]
theorem sc__law_box : FnScope n__law_box ["_law_script", "_law_k"] d__law_box.scope := ⟨rfl, rfl, rfl, by decide +kernel, rfl, by decide +kernel, by decide +kernel⟩
def b__law_box : Sv :=
    (sSeq (sSet 2 (sIf (sB (sOp ltU (sVar 1) (sUn lenD (sVar 0)))) (sOp ixSeq (sVar 0) (sVar 1)) (sC (.int 0))))
    (sRet (sLst (sCons (sOp mulU (sUn absD (sVar 2)) (sUn intD (sOp (iCmp fun i j => decide (j ≤ i)) (sUn absD (sVar 2)) (sOp (iOp powI) (sC (.int 10)) (sC (.int 18)))))) (sCons (sOp addU (sOp addU (sOp (iOp modI) (sUn intD (sVar 2)) (sC (.int 2305843009213693951))) (sOp mulU (sC (.int 39373)) (sVar 1))) (sC (.int 173))) (sCons (sC (.int 0)) sNil))))))
def m__law_box : List D → Option Opd := runP 3 b__law_box
theorem o__law_box (T : Tx K mg) : ∃ fd, FunD K "_law_box" "_law_box" d__law_box.params d__law_box.body d__law_box.scope [] [] (He.fAd K d__law_box.at_) fd ∧ FnOk P w K mg base CX0 1 (He.fAd K d__law_box.at_) fd ["_law_script", "_law_k"] (spP K 2 m__law_box) := by
  obtain ⟨fd, F⟩ := T.says.def_ 32 (d := d__law_box) rfl
  refine ⟨fd, F, F.ok (k := 0) sc__law_box (fun vs H Q E h => spP_len h) (fun cdv A outer s H vs Q E hr h => ?_)⟩
  have nd := sc__law_box.nd
  exact ⟨_, PSs.nox
      (pss_cons (ps_set (i := 2) nd rfl (Or.inl rfl) (pe_ifExp (pt_cmpR op_ltU (pv 1) (pe_callB call_len rfl T.g_len (by rfl) (pa_cons (pv 0) pa_nil)) (nomark _)) (pe_ix ix_seq (pv 0) (pv 1) (fun _ _ => rfl)) pe_int)) (pss_one (ps_ret (pe_lst (pa_cons (pe_op op_mulU (pe_callB call_abs rfl T.g_abs (by rfl) (pa_cons (pv 2) pa_nil)) (pe_callTy call_int1 rfl T.g_int (by rfl) (pa_cons (pe_cmpR op_ge (pe_callB call_abs rfl T.g_abs (by rfl) (pa_cons (pv 2) pa_nil)) (pe_op op_pow pe_int pe_int) (nomark _)) pa_nil))) (pa_cons (pe_op op_addU (pe_op op_addU (pe_op op_mod (pe_callTy call_int1 rfl T.g_int (by rfl) (pa_cons (pv 2) pa_nil)) pe_int) (pe_op op_mulU pe_int (pv 1))) pe_int) (pa_cons pe_int pa_nil))))))),
      fn_P (N := n__law_box) (as := [2]) (f := b__law_box)
      (ds_seq (ds_set 2 (by decide) (dx_if (dt_test (dx_op od_ltU (dx_var 1) (dx_len (dx_var 0)))) (dx_op od_ixSeq (dx_var 0) (dx_var 1)) (dx_c fun _ => .int _))) (ds_ret (dx_lst (da_cons (dx_op od_mulU (dx_cb1 ud_abs (dx_var 2)) (dx_cb1 ud_int (dx_op od_B0 (dx_cb1 ud_abs (dx_var 2)) (dx_op od_pow (dx_c fun _ => .int _) (dx_c fun _ => .int _))))) (da_cons (dx_op od_addU (dx_op od_addU (dx_op od_mod (dx_cb1 ud_int (dx_var 2)) (dx_c fun _ => .int _)) (dx_op od_mulU (dx_c fun _ => .int _) (dx_var 1))) (dx_c fun _ => .int _)) (da_cons (dx_c fun _ => .int _) da_nil)))))) h⟩
theorem c__law_box (T : Tx K mg) : C8.Cal P w K mg base 1 "_law_box" (spP K 2 m__law_box) [] := by
  obtain ⟨fd, F, ok⟩ := o__law_box (P := P) (w := w) (base := base) T
  exact ⟨_, fd, ["_law_script", "_law_k"], [], ok, T.f__law_box, F.kp, F.bindsN fun _ _ _ _ _ _ us hl => match us, hl with | [_, _], _ => rfl, .nil⟩
/-! law -/
def n_law : List Str := ["_law_script", "_law_cells_here", "_law_k"]
theorem sc_law : FnScope n_law ["_law_script"] d_law.scope := ⟨rfl, rfl, rfl, by decide +kernel, rfl, by decide +kernel, by decide +kernel⟩
def b_law : Sv :=
    (sSeq (sSet 1 (sCall m__law_cells (sCons (sVar 0) (sCons (sC (.int 2)) sNil))))
    (sRet (sUn allD (sLc (cRng1 (sCons (sUn lenD (sVar 1)) sNil)) [] [2] (hName 2) sYes (sCallT m__law_right (sCall m__law_box (sCons (sVar 1) (sCons (sVar 2) sNil))) sNil)))))
def m_law : List D → Option Opd := runP 3 b_law
theorem o_law (T : Tx K mg) : ∃ fd, FunD K "law" "law" d_law.params d_law.body d_law.scope [] [] (He.fAd K d_law.at_) fd ∧ FnOk P w K mg base CX0 16 (He.fAd K d_law.at_) fd ["_law_script"] (spP K 1 m_law) := by
  obtain ⟨fd, F⟩ := T.says.def_ 49 (d := d_law) rfl
  refine ⟨fd, F, F.ok (k := 15) sc_law (fun vs H Q E h => spP_len h) (fun cdv A outer s H vs Q E hr h => ?_)⟩
  have nd := sc_law.nd
  exact ⟨_, PSs.nox
      (pss_cons (ps_set (i := 1) nd rfl (Or.inr rfl) (C8.pe_c (c__law_cells T) hr (by decide) rfl (pa_cons (pv 0) (pa_cons pe_int pa_nil)))) (pss_one (ps_ret (pe_callB (cr_all rfl) rfl T.g_all (by rfl) (pa_cons (pe_lc (own := [("_law_k", 2)]) rfl nd (pi_range1 rfl T.g_range (pa_cons (pe_callB call_len rfl T.g_len (by rfl) (pa_cons (pv 1) pa_nil)) pa_nil)) (blkOk_by (N := n_law) (sc := d_law.scope) (by decide +kernel)) (fun _ _ _ _ _ => (pg_name (i := 2) nd rfl (Or.inl rfl))) (fun _ _ _ _ _ => pts_nil) (fun _ _ _ _ _ => (C8.pe_c (c__law_right T) hr (by decide) rfl (pa_cons (C8.pe_c (c__law_box T) hr (by decide) rfl (pa_cons (pv 1) (pa_cons (pv 2) pa_nil))) pa_nil)))) pa_nil))))),
      fn_P (N := n_law) (as := [1]) (f := b_law)
      (ds_seq (ds_set 1 (by decide) (dx_call (da_cons (dx_var 0) (da_cons (dx_c fun _ => .int _) da_nil)) (ln_cons (ln_cons ln_nil)))) (ds_ret (dx_cb1 ud_all (dx_lc (ms := []) (vs := [2]) (di_rng1 (da_cons (dx_len (dx_var 1)) da_nil)) (dg_name 2) (by decide) dt_yes (dx_callT (dx_call (da_cons (dx_var 1) (da_cons (dx_var 2) da_nil)) (ln_cons (ln_cons ln_nil))) da_nil ln_nil))))) h⟩
theorem c_law (T : Tx K mg) : C8.Cal P w K mg base 16 "law" (spP K 1 m_law) [] := by
  obtain ⟨fd, F, ok⟩ := o_law (P := P) (w := w) (base := base) T
  exact ⟨_, fd, ["_law_script"], [], ok, T.f_law, F.kp, F.bindsN fun _ _ _ _ _ _ us hl => match us, hl with | [_], _ => rfl, .nil⟩
end
end Bl
namespace Bl
open PySem PySem.Spec PyProof.Rows L2 Evl
def nm0 : List PySem.Str := ["_wall", "__name__", "NoCommit", "tupled", "is_less", "Plan", "known", "goes_along", "LAST", "STRICT", "Run", "run_of", "row", "refused", "not_less", "missed", "is_clean", "pairs_of", "can_miss", "_law_box", "_law_take", "_law_cells", "_law_of", "_law_same", "_law_sized", "_law_steps", "_law_touching", "_law_above", "_law_commits", "_law_plan"]
def nm1 : List PySem.Str := ["_law_facts", "_law_calls", "_law_every", "_law_begins", "_law_tools_right", "_law_right"]
def loose : List PySem.Str := nm0 ++ nm1
def slots : List (Str × Str × Nat) := [("Plan", "own_ahead", 0), ("Plan", "own_fresh", 1), ("Plan", "own_known", 2), ("Plan", "own_numbers", 3), ("Plan", "own_parents", 4), ("Plan", "own_touching", 5), ("Run", "own_plan", 0), ("Run", "own_refused", 1), ("Run", "own_row", 2), ("Run", "own_rule", 3)]
abbrev Rr : PySem.W.OpenRow := PySem.W.OpenLaw.row PySem.Challenge.rw_belowlast_k85_whole_calls_and_tools
abbrev hk : PySem.W.Hook := hookS 4 fa fn slots
def ob (s : PySem.W.SharedT) : He.AlD × Bool := obsSG 4 fa fn slots (HandSHeadRun.getT s)
theorem ob_eq (s : PySem.W.SharedT) : ob s = hk.obs s.abs := obsSG_eq (HandSHeadRun.getT_eq s)
theorem run (w : World) : HandSHeadRun.RunEq Rr (PySem.W.view Rr.prog [41]) hk ob 20000 loose w := by
  intro os
  kernel_rfl
theorem tx_of {K : PySem.W.Frag} {h : Heap} {mg : Str → Option Value} (X : K.In h) (G : h.Ns mainGlobals mg) (d : SaysS fa fn slots K) : Tx K mg :=
  have c := d.1
  { says := c, f__wall := He.glo_ok X G (c.fact 0 rfl), f_tupled := He.glo_ok X G (c.fact 1 rfl), f_is_less := He.glo_ok X G (c.fact 2 rfl), f_known := He.glo_ok X G (c.fact 3 rfl), f_goes_along := He.glo_ok X G (c.fact 4 rfl), f_run_of := He.glo_ok X G (c.fact 5 rfl), f_row := He.glo_ok X G (c.fact 6 rfl), f_refused := He.glo_ok X G (c.fact 7 rfl), f_not_less := He.glo_ok X G (c.fact 8 rfl), f_missed := He.glo_ok X G (c.fact 9 rfl), f_is_clean := He.glo_ok X G (c.fact 10 rfl), f_pairs_of := He.glo_ok X G (c.fact 11 rfl), f_can_miss := He.glo_ok X G (c.fact 12 rfl), f__law_box := He.glo_ok X G (c.fact 13 rfl), f__law_take := He.glo_ok X G (c.fact 14 rfl), f__law_cells := He.glo_ok X G (c.fact 15 rfl), f__law_of := He.glo_ok X G (c.fact 16 rfl), f__law_same := He.glo_ok X G (c.fact 17 rfl), f__law_sized := He.glo_ok X G (c.fact 18 rfl), f__law_steps := He.glo_ok X G (c.fact 19 rfl), f__law_touching := He.glo_ok X G (c.fact 20 rfl), f__law_above := He.glo_ok X G (c.fact 21 rfl), f__law_commits := He.glo_ok X G (c.fact 22 rfl), f__law_plan := He.glo_ok X G (c.fact 23 rfl), f__law_facts := He.glo_ok X G (c.fact 24 rfl), f__law_calls := He.glo_ok X G (c.fact 25 rfl), f__law_every := He.glo_ok X G (c.fact 26 rfl), f__law_begins := He.glo_ok X G (c.fact 27 rfl), f__law_tools_right := He.glo_ok X G (c.fact 28 rfl), f__law_right := He.glo_ok X G (c.fact 29 rfl), f_law := He.glo_ok X G (c.fact 30 rfl), g_iter := He.free_ok X G (c.fact 31 rfl), g_len := He.free_ok X G (c.fact 32 rfl), g_isinstance := He.free_ok X G (c.fact 33 rfl), g_tuple := He.free_ok X G (c.fact 34 rfl), g_list := He.free_ok X G (c.fact 35 rfl), g_all := He.free_ok X G (c.fact 36 rfl), g_sorted := He.free_ok X G (c.fact 37 rfl), g_set := He.free_ok X G (c.fact 38 rfl), g_dict := He.free_ok X G (c.fact 39 rfl), g_zip := He.free_ok X G (c.fact 40 rfl), g_enumerate := He.free_ok X G (c.fact 41 rfl), g_range := He.free_ok X G (c.fact 42 rfl), g_int := He.free_ok X G (c.fact 43 rfl), g_abs := He.free_ok X G (c.fact 44 rfl), g_str := He.free_ok X G (c.fact 45 rfl), g_bool := He.free_ok X G (c.fact 46 rfl), c_LAST := (He.str_ok X G (c.fact 47 rfl)).elim fun t h => ⟨_, h, ⟨_, rfl⟩⟩, c_STRICT := (He.str_ok X G (c.fact 48 rfl)).elim fun t h => ⟨_, h, ⟨_, rfl⟩⟩, f_Plan := He.glo_ok X G (c.fact 49 rfl), mk_Plan := He.mkr_ok (c.fact 50 rfl), m_Plan___iter__ := He.meth_ok (c.fact 51 rfl), m_Plan_commits := He.meth_ok (c.fact 52 rfl), m_Plan_parents := He.meth_ok (c.fact 53 rfl), m_Plan_fresh := He.meth_ok (c.fact 54 rfl), m_Plan_worth := He.meth_ok (c.fact 55 rfl), m_Plan_knows := He.meth_ok (c.fact 56 rfl), m_Plan_is_behind := He.meth_ok (c.fact 57 rfl), m_Plan_touch := He.meth_ok (c.fact 58 rfl), m_Plan_is_lower := He.meth_ok (c.fact 59 rfl), m_Plan_raised := He.meth_ok (c.fact 60 rfl), m_Plan_known := He.meth_ok (c.fact 61 rfl), m_Plan_look_commits := He.meth_ok (c.fact 62 rfl), m_Plan_look_steps := He.meth_ok (c.fact 63 rfl), k_Plan := scls_ok (c := "Plan") (d.sl 0 rfl), s_Plan_own_ahead := slot_ok (d.sl 0 rfl), s_Plan_own_fresh := slot_ok (d.sl 1 rfl), s_Plan_own_known := slot_ok (d.sl 2 rfl), s_Plan_own_numbers := slot_ok (d.sl 3 rfl), s_Plan_own_parents := slot_ok (d.sl 4 rfl), s_Plan_own_touching := slot_ok (d.sl 5 rfl), f_Run := He.glo_ok X G (c.fact 64 rfl), mk_Run := He.mkr_ok (c.fact 65 rfl), m_Run_is_above := He.meth_ok (c.fact 66 rfl), m_Run_call := He.meth_ok (c.fact 67 rfl), m_Run_row := He.meth_ok (c.fact 68 rfl), m_Run_refused := He.meth_ok (c.fact 69 rfl), k_Run := scls_ok (c := "Run") (d.sl 6 rfl), s_Run_own_plan := slot_ok (d.sl 6 rfl), s_Run_own_refused := slot_ok (d.sl 7 rfl), s_Run_own_row := slot_ok (d.sl 8 rfl), s_Run_own_rule := slot_ok (d.sl 9 rfl) }
end Bl
open PySem PySem.W PySem.Calls PyProof.Rows
theorem Bl.fd_same {K : PySem.W.Frag} {x q : PySem.Str} {a : Arguments} {b : List Stmt} {sc : Scope} {dv : List L2.V} {kw : List (PySem.Str × L2.V)} {f : Addr} {fd fd' : FuncData} (F : L2.FunD K x q a b sc dv kw f fd) (F' : L2.FunD K x q a b sc dv kw f fd') : fd' = fd := by
  obtain ⟨_, _, _, _, _, _, _, _, _, _, e1, l1, _⟩ := F.ex
  obtain ⟨_, _, _, _, _, _, _, _, _, _, e2, l2, _⟩ := F'.ex
  have e := Option.some.inj (l1.symm.trans l2)
  injection e with _ _ e _
  injection e with e
  exact e.symm
theorem Bl.holds_of (pure_law : ∀ ns : List Int, ns.length ≤ 63 → Bl.m_law [.scr ns] = some (.val (.bl true))) : PySem.Challenge.rw_belowlast_k85_whole_calls_and_tools.Holds := by
  w_on; o_law
  refine HandSHeadRun.head_any (r := Bl.Rr) (q := view Bl.Rr.prog [41]) (H := Bl.hk) (ob := Bl.ob) (M := 20000) (loose := Bl.loose) (d := HandSHeadRun.topDef Bl.Rr.prog 41) (kwd := []) Bl.ob_eq
    (by kernel_rfl) (fun s => by kernel_rfl) Bl.run (by kernel_rfl) (by kernel_rfl) (by kernel_rfl) (by rfl) (by first | assumption | decide +kernel) (by decide +kernel) ⟨rfl, rfl, rfl, rfl, rfl, by decide +kernel⟩ ?hw ?hc
  case hw => w_witness2
  case hc =>
    refine L2.walk_ofE (l := PySem.Challenge.rw_belowlast_k85_whole_calls_and_tools) (n := 63) (k := 16) (x := "_law_script") (CX := L2.CX0) rfl (by decide) (by kernel_rfl) ⟨rfl, by decide, by decide⟩ ?F (fun _ _ _ _ z => z)
    intro w mg fa h Y G hmg0
    obtain ⟨K, KX, c⟩ := Y
    have T := Bl.tx_of KX G c
    have hmg : mg ("law" : PySem.Str) = some (.ref fa) := by
      have e : (HandSHeadRun.topDef Bl.Rr.prog 41).name = ("law" : PySem.Str) := by kernel_rfl
      rw [← e]
      exact hmg0
    have e := hmg.symm.trans T.f_law
    cases e
    obtain ⟨fd, F, _⟩ := Bl.o_law (P := PySem.Challenge.rw_belowlast_k85_whole_calls_and_tools.prog) (w := w) (base := h) T
    have b := L2.FunD.bindsA (ps := ["_law_script"]) F fun _ _ _ _ _ _ us hl => match us, hl with | [_], _ => rfl
    refine ⟨K, fd, Bl.spP K 1 Bl.m_law, KX, fun s v => b s [v] rfl, fun H a ns hl _ hS => Bl.law_promise hS (pure_law ns hl) fun _ => rfl, fun base _ _ => ?_⟩
    obtain ⟨fd', F', ok⟩ := Bl.o_law (P := PySem.Challenge.rw_belowlast_k85_whole_calls_and_tools.prog) (w := w) (base := base) T
    have e := Bl.fd_same F F'
    subst e
    exact ok
/-! Plain rows, tables and orders: no program in sight. -/
namespace Bl
section
variable {α : Type} [DecidableEq α]
/-- rows that rise by an order and hold the same are one -/
theorem rise_eq {lt : α → α → Prop} (asym : ∀ a b, lt a b → lt b a → False) : ∀ {l m : List α}, l.Pairwise lt → m.Pairwise lt → (∀ x, x ∈ l ↔ x ∈ m) → l = m
  | [], m, _, _, h => by
    cases m with
    | nil => rfl
    | cons b m => exact absurd ((h b).mpr (List.mem_cons_self ..)) (by simp)
  | a :: l, [], _, _, h => absurd ((h a).mp (List.mem_cons_self ..)) (by simp)
  | a :: l, b :: m, hl, hm, h => by
    rw [List.pairwise_cons] at hl hm
    have e : a = b := by
      by_cases e : a = b
      · exact e
      · have h1 := (h a).mp (List.mem_cons_self ..)
        have h2 := (h b).mpr (List.mem_cons_self ..)
        rw [List.mem_cons] at h1 h2
        have h1 := h1.resolve_left e
        have h2 := h2.resolve_left (Ne.symm e)
        exact (asym _ _ (hm.1 a h1) (hl.1 b h2)).elim
    subst e
    have ih := rise_eq asym hl.2 hm.2 fun x => by
      constructor
      · intro hx
        rcases List.mem_cons.mp ((h x).mp (List.mem_cons_of_mem _ hx)) with q | q
        · subst q; exact (asym _ _ (hl.1 x hx) (hl.1 x hx)).elim
        · exact q
      · intro hx
        rcases List.mem_cons.mp ((h x).mpr (List.mem_cons_of_mem _ hx)) with q | q
        · subst q; exact (asym _ _ (hm.1 x hx) (hm.1 x hx)).elim
        · exact q
    rw [ih]
structure Ordr (low : α → α → Bool) : Prop where
  irr : ∀ a, low a a = false
  tr : ∀ a b c, low a b = true → low b c = true → low a c = true
  tot : ∀ a b, a ≠ b → low a b = true ∨ low b a = true
theorem Ordr.asym {low : α → α → Bool} (o : Ordr low) (a b : α) (h : low a b = true) (g : low b a = true) : False := by
  have := o.tr a b a h g
  rw [o.irr] at this
  cases this
/-- the lowest one of some -/
def lowest (low : α → α → Bool) (x : α) (xs : List α) : α := xs.foldl (fun m y => if low y m = true then y else m) x
theorem lowest_mem (low : α → α → Bool) : ∀ (xs : List α) (x : α), lowest low x xs ∈ x :: xs
  | [], x => List.mem_cons_self ..
  | y :: ys, x => by
    show lowest low (if low y x = true then y else x) ys ∈ x :: y :: ys
    have h := lowest_mem low ys (if low y x = true then y else x)
    rcases List.mem_cons.mp h with q | q
    · rw [q]; split <;> simp
    · simp [q]
theorem lowest_le {low : α → α → Bool} (o : Ordr low) : ∀ (xs : List α) (x z : α), z ∈ x :: xs → z ≠ lowest low x xs → low (lowest low x xs) z = true
  | [], x, z, h, n => by
    rw [List.mem_singleton] at h
    exact absurd h n
  | y :: ys, x, z, h, n => by
    have e : lowest low x (y :: ys) = lowest low (if low y x = true then y else x) ys := rfl
    rw [e] at n ⊢
    have ih := lowest_le o ys (if low y x = true then y else x)
    by_cases hz : z ∈ (if low y x = true then y else x) :: ys
    · exact ih z hz n
    · rw [List.mem_cons, not_or] at hz
      -- z is the one that was left
      have hm : (if low y x = true then y else x) = lowest low (if low y x = true then y else x) ys ∨ low (lowest low (if low y x = true then y else x) ys) (if low y x = true then y else x) = true := by
        by_cases q : (if low y x = true then y else x) = lowest low (if low y x = true then y else x) ys
        · exact .inl q
        · exact .inr (ih _ (List.mem_cons_self ..) q)
      have hl : low (if low y x = true then y else x) z = true := by
        have h := h
        rw [List.mem_cons, List.mem_cons] at h
        rcases h with h | h | h
        · by_cases q : low y x = true
          · rw [if_pos q, h]; exact q
          · rw [if_neg q] at hz; exact absurd h hz.1
        · by_cases q : low y x = true
          · rw [if_pos q] at hz; exact absurd h hz.1
          · rw [if_neg q] at hz ⊢
            rw [h] at hz ⊢
            rcases o.tot x y (Ne.symm hz.1) with w | w
            · exact w
            · exact absurd w q
        · exact absurd h hz.2
      rcases hm with q | q
      · rw [← q]; exact hl
      · exact o.tr _ _ _ q hl
/-- the lowest one first, again and again -/
def selSort (low : α → α → Bool) : Nat → List α → List α
  | 0, _ => []
  | _ + 1, [] => []
  | n + 1, x :: xs => lowest low x xs :: selSort low n ((x :: xs).erase (lowest low x xs))
theorem selSort_ok {low : α → α → Bool} (o : Ordr low) : ∀ (n : Nat) (l : List α), l.length ≤ n → l.Nodup → (selSort low n l).Perm l ∧ (selSort low n l).Pairwise (fun a b => low a b = true)
  | 0, l, h, _ => by
    have : l = [] := List.length_eq_zero_iff.mp (by omega)
    subst this
    exact ⟨List.Perm.refl _, List.Pairwise.nil⟩
  | n + 1, [], _, _ => ⟨List.Perm.refl _, List.Pairwise.nil⟩
  | n + 1, x :: xs, h, nd => by
    have hm := lowest_mem low xs x
    have hl : ((x :: xs).erase (lowest low x xs)).length ≤ n := by
      rw [List.length_erase_of_mem hm]
      simp at h ⊢
      omega
    have ih := selSort_ok o n _ hl (nd.erase _)
    refine ⟨(ih.1.cons _).trans (List.perm_cons_erase hm).symm, List.pairwise_cons.mpr ⟨fun z hz => ?_, ih.2⟩⟩
    have hz := ih.1.mem_iff.mp hz
    exact lowest_le o xs x z (List.mem_of_mem_erase hz) fun q => by
      rw [q] at hz
      exact (nd.not_mem_erase hz).elim
/-- how many are lower -/
def rank (low : α → α → Bool) (l : List α) (x : α) : Nat := (l.filter fun y => low y x).length
theorem rank_lt {low : α → α → Bool} (o : Ordr low) {l : List α} {a b : α} (ha : a ∈ l) (h : low a b = true) : rank low l a < rank low l b := by
  unfold rank
  have sub : ∀ (l : List α), (l.filter fun y => low y a).length ≤ (l.filter fun y => low y b).length := fun l => by
    induction l with
    | nil => exact Nat.le_refl _
    | cons y l ih =>
      rw [List.filter_cons, List.filter_cons]
      by_cases q : low y a = true
      · rw [if_pos q, if_pos (o.tr _ _ _ q h)]; simpa using ih
      · rw [if_neg q]; split
        · exact Nat.le_succ_of_le ih
        · exact ih
  induction l with
  | nil => cases ha
  | cons y l ih =>
    rw [List.filter_cons, List.filter_cons]
    by_cases e : y = a
    · subst e
      rw [o.irr, h, if_pos rfl, if_neg (by simp)]
      exact Nat.lt_succ_of_le (sub l)
    · have ih := ih ((List.mem_cons.mp ha).resolve_left (Ne.symm e))
      by_cases q : low y a = true
      · rw [if_pos q, if_pos (o.tr _ _ _ q h)]; simpa using ih
      · rw [if_neg q]; split
        · exact Nat.lt_succ_of_lt ih
        · exact ih
/-! ### commits -/
def look (t : List (α × List α)) (x : α) : List α := ((t.find? fun e => decide (e.1 = x)).map (·.2)).getD []
def mrg (a b : List α) : List α := b.foldl (fun acc k => if k ∈ acc then acc else acc ++ [k]) a
theorem mem_mrg : ∀ (b a : List α) (x : α), x ∈ mrg a b ↔ x ∈ a ∨ x ∈ b
  | [], a, x => by simp [mrg]
  | k :: b, a, x => by
    show x ∈ mrg (if k ∈ a then a else a ++ [k]) b ↔ _
    rw [mem_mrg b]
    by_cases h : k ∈ a
    · rw [if_pos h]
      constructor
      · rintro (q | q)
        · exact .inl q
        · exact .inr (List.mem_cons_of_mem _ q)
      · rintro (q | q)
        · exact .inl q
        · rcases List.mem_cons.mp q with q | q
          · subst q; exact .inl h
          · exact .inr q
    · rw [if_neg h]
      simp [or_assoc]
theorem nodup_mrg : ∀ (b a : List α), a.Nodup → (mrg a b).Nodup
  | [], _, h => h
  | k :: b, a, h => by
    show (mrg (if k ∈ a then a else a ++ [k]) b).Nodup
    apply nodup_mrg b
    split
    · exact h
    · rename_i q
      rw [List.nodup_append]
      exact ⟨h, by simp, fun x hx y hy => by rw [List.mem_singleton] at hy; subst hy; intro e; subst e; exact q hx⟩
theorem mrg_nil : ∀ (b a : List α), (a ++ b).Nodup → mrg a b = a ++ b
  | [], a, _ => by simp [mrg]
  | k :: b, a, h => by
    have hk : k ∉ a := fun q => by
      have := (List.nodup_append.mp h).2.2 k q k (List.mem_cons_self ..)
      exact this rfl
    show mrg (if k ∈ a then a else a ++ [k]) b = _
    rw [if_neg hk, mrg_nil b (a ++ [k]) (by simpa using h)]
    simp
abbrev Cm (α : Type) := α × List α × List α
def rowOf (f : Cm α → List α) (t : List (α × List α)) (c : Cm α) : List α := c.2.1.foldl (fun acc p => mrg acc (look t p)) (f c)
def tabS (f : Cm α → List α) (t : List (α × List α)) (c : Cm α) : List (α × List α) := t ++ [(c.1, rowOf f t c)]
def tab (f : Cm α → List α) (cm : List (Cm α)) : List (α × List α) := cm.foldl (tabS f) []
theorem mem_rowOf' (t : List (α × List α)) (y : α) : ∀ (ps a : List α), y ∈ ps.foldl (fun acc p => mrg acc (look t p)) a ↔ y ∈ a ∨ ∃ p ∈ ps, y ∈ look t p
  | [], a => by simp
  | p :: ps, a => by
    rw [List.foldl_cons, mem_rowOf' t y ps, mem_mrg]
    simp [or_assoc]
theorem mem_rowOf {f : Cm α → List α} {t : List (α × List α)} {c : Cm α} {y : α} : y ∈ rowOf f t c ↔ y ∈ f c ∨ ∃ p ∈ c.2.1, y ∈ look t p := mem_rowOf' t y c.2.1 (f c)
theorem nodup_rowOf' (t : List (α × List α)) : ∀ (ps a : List α), a.Nodup → (ps.foldl (fun acc p => mrg acc (look t p)) a).Nodup
  | [], a, h => h
  | p :: ps, a, h => nodup_rowOf' t ps _ (nodup_mrg _ _ h)
theorem tab_snoc (f : Cm α → List α) (cm : List (Cm α)) (c : Cm α) : tab f (cm ++ [c]) = tab f cm ++ [(c.1, rowOf f (tab f cm) c)] := by
  simp [tab, List.foldl_append, tabS]
theorem tab_more (f : Cm α → List α) : ∀ (post pre : List (Cm α)), ∃ r, tab f (pre ++ post) = tab f pre ++ r ∧ r.map (·.1) = post.map (·.1)
  | [], pre => ⟨[], by simp⟩
  | c :: post, pre => by
    obtain ⟨r, e, h⟩ := tab_more f post (pre ++ [c])
    refine ⟨(c.1, rowOf f (tab f pre) c) :: r, ?_, by simp [h]⟩
    rw [show pre ++ c :: post = pre ++ [c] ++ post by simp, e, tab_snoc]
    simp
theorem tab_keys (f : Cm α → List α) (cm : List (Cm α)) : (tab f cm).map (·.1) = cm.map (·.1) := by
  obtain ⟨r, e, h⟩ := tab_more f cm []
  rw [List.nil_append] at e
  rw [e]
  simpa [tab] using h
theorem look_app {t r : List (α × List α)} {x : α} (h : x ∈ t.map (·.1)) : look (t ++ r) x = look t x := by
  unfold look
  rw [List.find?_append]
  cases e : t.find? fun e => decide (e.1 = x) with
  | some z => rfl
  | none =>
    obtain ⟨z, hz, rfl⟩ := List.mem_map.mp h
    have := List.find?_eq_none.mp e z hz
    simp at this
theorem look_new {t r : List (α × List α)} {x : α} {l : List α} (h : x ∉ t.map (·.1)) : look (t ++ (x, l) :: r) x = l := by
  unfold look
  rw [List.find?_append]
  cases e : t.find? fun e => decide (e.1 = x) with
  | some z =>
    have h1 := List.find?_some e
    have h2 := List.mem_of_find?_eq_some e
    rw [decide_eq_true_eq] at h1
    exact absurd (List.mem_map.mpr ⟨z, h2, h1⟩) h
  | none => simp
/-- commits as a plan has them: labels once, parents earlier -/
structure Okc (cm : List (Cm α)) : Prop where
  nd : (cm.map (·.1)).Nodup
  up : ∀ pre c post, cm = pre ++ c :: post → ∀ p ∈ c.2.1, p ∈ pre.map (·.1)
theorem Okc.same {cm : List (Cm α)} (o : Okc cm) {c d : Cm α} (hc : c ∈ cm) (hd : d ∈ cm) (e : c.1 = d.1) : c = d := by
  obtain ⟨pre, post, rfl⟩ := List.append_of_mem hc
  have nd := o.nd
  rw [List.map_append, List.map_cons, List.nodup_append] at nd
  rcases List.mem_append.mp hd with h | h
  · exact absurd e.symm (nd.2.2 d.1 (List.mem_map.mpr ⟨d, h, rfl⟩) c.1 (List.mem_cons_self ..))
  · rcases List.mem_cons.mp h with h | h
    · exact h.symm
    · have := List.nodup_cons.mp nd.2.1
      exact absurd (List.mem_map.mpr ⟨d, h, e.symm⟩) this.1
theorem Okc.eqn {cm : List (Cm α)} (o : Okc cm) (f : Cm α → List α) {c : Cm α} (hc : c ∈ cm) {y : α} : y ∈ look (tab f cm) c.1 ↔ y ∈ f c ∨ ∃ p ∈ c.2.1, y ∈ look (tab f cm) p := by
  obtain ⟨pre, post, rfl⟩ := List.append_of_mem hc
  have nd := o.nd
  rw [List.map_append, List.map_cons, List.nodup_append] at nd
  have hn : c.1 ∉ pre.map (·.1) := fun h => nd.2.2 c.1 h c.1 (List.mem_cons_self ..) rfl
  obtain ⟨r, e, h⟩ := tab_more f post (pre ++ [c])
  have e1 : tab f (pre ++ c :: post) = tab f pre ++ (c.1, rowOf f (tab f pre) c) :: r := by
    rw [show pre ++ c :: post = pre ++ [c] ++ post by simp, e, tab_snoc]
    simp
  rw [e1, look_new (by rw [tab_keys]; exact hn), mem_rowOf]
  have : ∀ p ∈ c.2.1, look (tab f pre ++ (c.1, rowOf f (tab f pre) c) :: r) p = look (tab f pre) p := fun p hp => look_app (by rw [tab_keys]; exact o.up pre c post rfl p hp)
  constructor
  · rintro (q | ⟨p, hp, q⟩)
    · exact .inl q
    · exact .inr ⟨p, hp, by rw [this p hp]; exact q⟩
  · rintro (q | ⟨p, hp, q⟩)
    · exact .inl q
    · exact .inr ⟨p, hp, by rw [← this p hp]; exact q⟩
theorem Okc.nodup {cm : List (Cm α)} (o : Okc cm) (f : Cm α → List α) (hf : ∀ c ∈ cm, (f c).Nodup) {c : Cm α} (hc : c ∈ cm) : (look (tab f cm) c.1).Nodup := by
  have hfc := hf c hc
  obtain ⟨pre, post, rfl⟩ := List.append_of_mem hc
  have nd := o.nd
  rw [List.map_append, List.map_cons, List.nodup_append] at nd
  have hn : c.1 ∉ pre.map (·.1) := fun h => nd.2.2 c.1 h c.1 (List.mem_cons_self ..) rfl
  obtain ⟨r, e, h⟩ := tab_more f post (pre ++ [c])
  have e1 : tab f (pre ++ c :: post) = tab f pre ++ (c.1, rowOf f (tab f pre) c) :: r := by
    rw [show pre ++ c :: post = pre ++ [c] ++ post by simp, e, tab_snoc]
    simp
  rw [e1, look_new (by rw [tab_keys]; exact hn)]
  exact nodup_rowOf' _ _ _ hfc
theorem mem_at {cm : List (Cm α)} {x : α} (h : x ∈ cm.map (·.1)) : ∃ (i : Nat) (c : Cm α), cm[i]? = some c ∧ c.1 = x := by
  obtain ⟨c, hc, e⟩ := List.mem_map.mp h
  obtain ⟨i, hi, e2⟩ := List.getElem_of_mem hc
  exact ⟨i, c, by rw [List.getElem?_eq_getElem hi, e2], e⟩
/-- a parent stands earlier -/
theorem Okc.earlier {cm : List (Cm α)} (o : Okc cm) {i : Nat} {c : Cm α} (h : cm[i]? = some c) {p : α} (hp : p ∈ c.2.1) : ∃ j d, j < i ∧ cm[j]? = some d ∧ d.1 = p := by
  obtain ⟨hi, e⟩ := List.getElem?_eq_some_iff.mp h
  have e0 : cm = cm.take i ++ c :: cm.drop (i + 1) := by
    rw [← e, ← List.drop_eq_getElem_cons hi, List.take_append_drop]
  obtain ⟨j, d, h1, h2⟩ := mem_at (o.up _ _ _ e0 p hp)
  rw [List.getElem?_take] at h1
  split at h1
  · rename_i hj; exact ⟨j, d, hj, h1, h2⟩
  · cases h1
/-- from parents to commits -/
theorem Okc.ind {cm : List (Cm α)} (o : Okc cm) {P : α → Prop} (h : ∀ c ∈ cm, (∀ p ∈ c.2.1, P p) → P c.1) {x : α} (hx : x ∈ cm.map (·.1)) : P x := by
  obtain ⟨i, c, h1, rfl⟩ := mem_at hx
  clear hx
  induction i using Nat.strongRecOn generalizing c with
  | _ i ih =>
    exact h c (List.mem_of_getElem? h1) fun p hp => by
      obtain ⟨j, d, hj, h2, rfl⟩ := o.earlier h1 hp
      exact ih j hj d h2
abbrev ahead (cm : List (Cm α)) (x : α) : List α := look (tab (·.2.1) cm) x
abbrev knownOf (cm : List (Cm α)) (x : α) : List α := look (tab (·.2.2) cm) x
theorem Okc.par_mem {cm : List (Cm α)} (o : Okc cm) {c : Cm α} (hc : c ∈ cm) {p : α} (hp : p ∈ c.2.1) : p ∈ cm.map (·.1) := by
  obtain ⟨pre, post, e⟩ := List.append_of_mem hc
  have := o.up pre c post e p hp
  rw [e, List.map_append]
  exact List.mem_append_left _ this
theorem Okc.ahead_mem {cm : List (Cm α)} (o : Okc cm) {x : α} (hx : x ∈ cm.map (·.1)) : ∀ y ∈ ahead cm x, y ∈ cm.map (·.1) :=
  o.ind (P := fun x => ∀ y ∈ ahead cm x, y ∈ cm.map (·.1)) (fun c hc ih y hy => by
    rcases (o.eqn _ hc).mp hy with q | ⟨p, hp, q⟩
    · exact o.par_mem hc q
    · exact ih p hp y q) hx
theorem Okc.ahead_tr {cm : List (Cm α)} (o : Okc cm) {x : α} (hx : x ∈ cm.map (·.1)) : ∀ y ∈ ahead cm x, ∀ z ∈ ahead cm y, z ∈ ahead cm x :=
  o.ind (P := fun x => ∀ y ∈ ahead cm x, ∀ z ∈ ahead cm y, z ∈ ahead cm x) (fun c hc ih y hy z hz => by
    refine (o.eqn _ hc).mpr ?_
    rcases (o.eqn _ hc).mp hy with q | ⟨p, hp, q⟩
    · exact .inr ⟨y, q, hz⟩
    · exact .inr ⟨p, hp, ih p hp y q z hz⟩) hx
/-- what is known: what comes with the commit or one ahead of it -/
theorem Okc.known_iff {cm : List (Cm α)} (o : Okc cm) {x : α} (hx : x ∈ cm.map (·.1)) : ∀ s, s ∈ knownOf cm x ↔ ∃ c ∈ cm, s ∈ c.2.2 ∧ (c.1 = x ∨ c.1 ∈ ahead cm x) :=
  o.ind (P := fun x => ∀ s, s ∈ knownOf cm x ↔ ∃ c ∈ cm, s ∈ c.2.2 ∧ (c.1 = x ∨ c.1 ∈ ahead cm x)) (fun c hc ih s => by
    rw [show (s ∈ knownOf cm c.1) ↔ _ from o.eqn _ hc]
    constructor
    · rintro (q | ⟨p, hp, q⟩)
      · exact ⟨c, hc, q, .inl rfl⟩
      · obtain ⟨d, hd, h1, h2⟩ := (ih p hp s).mp q
        refine ⟨d, hd, h1, .inr ((o.eqn _ hc).mpr ?_)⟩
        rcases h2 with h2 | h2
        · exact .inl (h2 ▸ hp)
        · exact .inr ⟨p, hp, h2⟩
    · rintro ⟨d, hd, h1, h2 | h2⟩
      · rw [o.same hd hc h2] at h1
        exact .inl h1
      · rcases (o.eqn _ hc).mp h2 with q | ⟨p, hp, q⟩
        · exact .inr ⟨d.1, q, (ih d.1 q s).mpr ⟨d, hd, h1, .inl rfl⟩⟩
        · exact .inr ⟨p, hp, (ih p hp s).mpr ⟨d, hd, h1, .inr q⟩⟩) hx
/-- a walk back over parents, turn by turn -/
theorem Okc.walk {cm : List (Cm α)} (o : Okc cm) {x : α} (hx : x ∈ cm.map (·.1)) (par : α → List α) (hpar : ∀ c ∈ cm, ∀ y, y ∈ par c.1 ↔ y ∈ c.2.1) (B : Nat → α → Prop) (h0 : ∀ y, B 0 y ↔ y = x) (h1 : ∀ k y, B (k + 1) y ↔ B k y ∨ ∃ z, B k z ∧ y ∈ par z) (y : α) : B cm.length y ↔ y = x ∨ y ∈ ahead cm x := by
  have par_ahead : ∀ z ∈ cm.map (·.1), ∀ y ∈ par z, y ∈ ahead cm z := fun z hz y hy => by
    obtain ⟨c, hc, rfl⟩ := List.mem_map.mp hz
    exact (o.eqn _ hc).mpr (.inl ((hpar c hc y).mp hy))
  constructor
  · generalize cm.length = n
    intro h
    induction n generalizing y with
    | zero => exact .inl ((h0 y).mp h)
    | succ n ih =>
      rcases (h1 n y).mp h with h | ⟨z, hz, hy⟩
      · exact ih y h
      · rcases ih z hz with q | q
        · subst q; exact .inr (par_ahead _ hx y hy)
        · exact .inr (o.ahead_tr hx z q y (par_ahead z (o.ahead_mem hx z q) y hy))
  · have mono : ∀ k m y, B k y → B (k + m) y := fun k m => by
      induction m with
      | zero => exact fun y h => h
      | succ m ih => exact fun y h => (h1 (k + m) y).mpr (.inl (ih y h))
    have key : ∀ i c, cm[i]? = some c → ∀ k, B k c.1 → ∀ y ∈ ahead cm c.1, B (k + i) y := fun i => by
      induction i using Nat.strongRecOn with
      | _ i ih =>
        intro c hc k hk y hy
        have hm := List.mem_of_getElem? hc
        have stp : ∀ p ∈ c.2.1, B (k + 1) p := fun p hp => (h1 k p).mpr (.inr ⟨c.1, hk, (hpar c hm p).mpr hp⟩)
        rcases (o.eqn _ hm).mp hy with q | ⟨p, hp, q⟩
        · obtain ⟨j, d, hj, _, _⟩ := o.earlier hc q
          have := mono (k + 1) (i - 1) y (stp y q)
          rw [show k + 1 + (i - 1) = k + i by omega] at this
          exact this
        · obtain ⟨j, d, hj, h2, rfl⟩ := o.earlier hc hp
          have := mono _ (i - 1 - j) y (ih j hj d h2 (k + 1) (stp _ hp) y q)
          rw [show k + 1 + j + (i - 1 - j) = k + i by omega] at this
          exact this
    rintro (rfl | h)
    · have := mono 0 cm.length y ((h0 y).mpr rfl)
      rwa [Nat.zero_add] at this
    · obtain ⟨i, c, hc, rfl⟩ := mem_at hx
      have := key i c hc 0 ((h0 _).mpr rfl) y h
      have hi := (List.getElem?_eq_some_iff.mp hc).1
      have := mono _ (cm.length - i) y this
      rw [show 0 + i + (cm.length - i) = cm.length by omega] at this
      exact this
end
/-! ### fractions -/
def lessF (x y : Int × Int) : Bool := decide (x.1 * y.2 < y.1 * x.2)
def okF (x : Int × Int) : Prop := 0 < x.1 ∧ x.1 ≤ 1000 ∧ (x.2 = 1 ∨ (x.2 = 2 ∧ x.1 % 2 ≠ 0) ∨ (x.2 = 3 ∧ x.1 % 3 ≠ 0))
theorem okF.pos {x : Int × Int} (h : okF x) : 0 < x.2 ∧ x.2 ≤ 3 := by
  rcases h.2.2 with h | ⟨h, _⟩ | ⟨h, _⟩ <;> omega
theorem lessF_irr (x : Int × Int) : lessF x x = false := by simp [lessF]
theorem lessF_tr {x y z : Int × Int} (hx : 0 < x.2) (hy : 0 < y.2) (hz : 0 < z.2) (h : lessF x y = true) (g : lessF y z = true) : lessF x z = true := by
  unfold lessF at *
  rw [decide_eq_true_eq] at *
  have h1 : x.1 * y.2 * z.2 < y.1 * x.2 * z.2 := Int.mul_lt_mul_of_pos_right h hz
  have h2 : y.1 * z.2 * x.2 < z.1 * y.2 * x.2 := Int.mul_lt_mul_of_pos_right g hx
  have e : y.1 * x.2 * z.2 = y.1 * z.2 * x.2 := by rw [Int.mul_assoc, Int.mul_comm x.2, ← Int.mul_assoc]
  have h3 : x.1 * y.2 * z.2 < z.1 * y.2 * x.2 := by rw [e] at h1; exact Int.lt_trans h1 h2
  have e1 : x.1 * y.2 * z.2 = x.1 * z.2 * y.2 := by rw [Int.mul_assoc, Int.mul_comm y.2, ← Int.mul_assoc]
  have e2 : z.1 * y.2 * x.2 = z.1 * x.2 * y.2 := by rw [Int.mul_assoc, Int.mul_comm y.2, ← Int.mul_assoc]
  rw [e1, e2] at h3
  exact Int.lt_of_mul_lt_mul_right h3 (Int.le_of_lt hy)
theorem lessF_tri {x y : Int × Int} (hx : okF x) (hy : okF y) (n : x ≠ y) : lessF x y = true ∨ lessF y x = true := by
  obtain ⟨a, b⟩ := x
  obtain ⟨c, d⟩ := y
  unfold lessF
  rw [decide_eq_true_eq, decide_eq_true_eq]
  have n : ¬ (a = c ∧ b = d) := fun z => n (by rw [z.1, z.2])
  obtain ⟨h1, h2, h3⟩ := hx
  obtain ⟨g1, g2, g3⟩ := hy
  dsimp only at *
  rcases h3 with h3 | ⟨h3, h4⟩ | ⟨h3, h4⟩ <;> rcases g3 with g3 | ⟨g3, g4⟩ | ⟨g3, g4⟩ <;> subst h3 <;> subst g3 <;> omega
def lowF {α : Type} (lt : α → α → Bool) (sz : α → Int × Int) (a b : α) : Bool := lessF (sz a) (sz b) || (decide (sz a = sz b) && lt a b)
theorem lowF_ord {α : Type} [DecidableEq α] {lt : α → α → Bool} (o : Ordr lt) {sz : α → Int × Int} (ok : ∀ a, okF (sz a)) : Ordr (lowF lt sz) where
  irr a := by simp [lowF, lessF_irr, o.irr]
  tr a b c h g := by
    unfold lowF at *
    rw [Bool.or_eq_true, Bool.and_eq_true, decide_eq_true_eq] at *
    rcases h with h | ⟨h1, h2⟩
    · rcases g with g | ⟨g1, g2⟩
      · exact .inl (lessF_tr (ok a).pos.1 (ok b).pos.1 (ok c).pos.1 h g)
      · rw [← g1]; exact .inl h
    · rcases g with g | ⟨g1, g2⟩
      · rw [h1]; exact .inl g
      · exact .inr ⟨h1.trans g1, o.tr _ _ _ h2 g2⟩
  tot a b n := by
    unfold lowF
    rw [Bool.or_eq_true, Bool.and_eq_true, decide_eq_true_eq, Bool.or_eq_true, Bool.and_eq_true, decide_eq_true_eq]
    by_cases e : sz a = sz b
    · rcases o.tot a b n with h | h
      · exact .inl (.inr ⟨e, h⟩)
      · exact .inr (.inr ⟨e.symm, h⟩)
    · rcases lessF_tri (ok a) (ok b) e with h | h
      · exact .inl (.inl h)
      · exact .inr (.inl h)
/-- ranks of two kinds of lower ones -/
theorem rank_split {α : Type} {lt : α → α → Bool} {sz : α → Int × Int} (x : α) : ∀ l : List α, (l.filter fun y => lessF (sz y) (sz x)).length + (l.filter fun y => decide (sz y = sz x) && lt y x).length = rank (lowF lt sz) l x
  | [] => rfl
  | y :: l => by
    have ih := rank_split (lt := lt) (sz := sz) x l
    unfold rank at *
    rw [List.filter_cons, List.filter_cons, List.filter_cons]
    unfold lowF at *
    by_cases h : lessF (sz y) (sz x) = true
    · have : ¬ sz y = sz x := fun e => by rw [e, lessF_irr] at h; cases h
      simp [h, this]
      omega
    · by_cases g : (decide (sz y = sz x) && lt y x) = true
      · rw [if_neg h, if_pos g, if_pos (by simp [g])]
        simp only [List.length_cons]
        omega
      · rw [if_neg h, if_neg g, if_neg (by simp [h, g])]
        exact ih
end Bl
/-! Tables by any rows; putting in by size; scans. -/
namespace Bl
section
variable {α : Type} [DecidableEq α]
def tabG (g : List (α × List α) → Cm α → List α) (cm : List (Cm α)) : List (α × List α) := cm.foldl (fun t c => t ++ [(c.1, g t c)]) []
theorem tabG_snoc (g : List (α × List α) → Cm α → List α) (cm : List (Cm α)) (c : Cm α) : tabG g (cm ++ [c]) = tabG g cm ++ [(c.1, g (tabG g cm) c)] := by
  simp [tabG, List.foldl_append]
theorem tabG_more (g : List (α × List α) → Cm α → List α) : ∀ (post pre : List (Cm α)), ∃ r, tabG g (pre ++ post) = tabG g pre ++ r ∧ r.map (·.1) = post.map (·.1)
  | [], pre => ⟨[], by simp⟩
  | c :: post, pre => by
    obtain ⟨r, e, h⟩ := tabG_more g post (pre ++ [c])
    refine ⟨(c.1, g (tabG g pre) c) :: r, ?_, by simp [h]⟩
    rw [show pre ++ c :: post = pre ++ [c] ++ post by simp, e, tabG_snoc]
    simp
theorem tabG_keys (g : List (α × List α) → Cm α → List α) (cm : List (Cm α)) : (tabG g cm).map (·.1) = cm.map (·.1) := by
  obtain ⟨r, e, h⟩ := tabG_more g cm []
  rw [List.nil_append] at e
  rw [e]
  simpa [tabG] using h
theorem Okc.eqnG {cm : List (Cm α)} (o : Okc cm) {f : Cm α → List α} {g : List (α × List α) → Cm α → List α} (hg : ∀ t c y, y ∈ g t c ↔ y ∈ f c ∨ ∃ p ∈ c.2.1, y ∈ look t p) {c : Cm α} (hc : c ∈ cm) {y : α} :
    y ∈ look (tabG g cm) c.1 ↔ y ∈ f c ∨ ∃ p ∈ c.2.1, y ∈ look (tabG g cm) p := by
  obtain ⟨pre, post, rfl⟩ := List.append_of_mem hc
  have nd := o.nd
  rw [List.map_append, List.map_cons, List.nodup_append] at nd
  have hn : c.1 ∉ pre.map (·.1) := fun h => nd.2.2 c.1 h c.1 (List.mem_cons_self ..) rfl
  obtain ⟨r, e, h⟩ := tabG_more g post (pre ++ [c])
  have e1 : tabG g (pre ++ c :: post) = tabG g pre ++ (c.1, g (tabG g pre) c) :: r := by
    rw [show pre ++ c :: post = pre ++ [c] ++ post by simp, e, tabG_snoc]
    simp
  rw [e1, look_new (by rw [tabG_keys]; exact hn), hg]
  have : ∀ p ∈ c.2.1, look (tabG g pre ++ (c.1, g (tabG g pre) c) :: r) p = look (tabG g pre) p := fun p hp => look_app (by rw [tabG_keys]; exact o.up pre c post rfl p hp)
  constructor
  · rintro (q | ⟨p, hp, q⟩)
    · exact .inl q
    · exact .inr ⟨p, hp, by rw [this p hp]; exact q⟩
  · rintro (q | ⟨p, hp, q⟩)
    · exact .inl q
    · exact .inr ⟨p, hp, by rw [← this p hp]; exact q⟩
theorem Okc.sameG {cm : List (Cm α)} (o : Okc cm) {f : Cm α → List α} {g : List (α × List α) → Cm α → List α} (hg : ∀ t c y, y ∈ g t c ↔ y ∈ f c ∨ ∃ p ∈ c.2.1, y ∈ look t p) {x : α} (hx : x ∈ cm.map (·.1)) : ∀ y, y ∈ look (tabG g cm) x ↔ y ∈ look (tab f cm) x :=
  o.ind (P := fun x => ∀ y, y ∈ look (tabG g cm) x ↔ y ∈ look (tab f cm) x) (fun c hc ih y => by
    rw [o.eqnG hg hc, o.eqn f hc]
    constructor
    · rintro (q | ⟨p, hp, q⟩)
      · exact .inl q
      · exact .inr ⟨p, hp, (ih p hp y).mp q⟩
    · rintro (q | ⟨p, hp, q⟩)
      · exact .inl q
      · exact .inr ⟨p, hp, (ih p hp y).mpr q⟩) hx
theorem Okc.rowG {cm : List (Cm α)} (o : Okc cm) {g : List (α × List α) → Cm α → List α} {P : List α → Prop} (hP : ∀ t c, P (g t c)) {x : α} (hx : x ∈ cm.map (·.1)) : P (look (tabG g cm) x) := by
  obtain ⟨c, hc, rfl⟩ := List.mem_map.mp hx
  obtain ⟨pre, post, rfl⟩ := List.append_of_mem hc
  have nd := o.nd
  rw [List.map_append, List.map_cons, List.nodup_append] at nd
  have hn : c.1 ∉ pre.map (·.1) := fun h => nd.2.2 c.1 h c.1 (List.mem_cons_self ..) rfl
  obtain ⟨r, e, h⟩ := tabG_more g post (pre ++ [c])
  have e1 : tabG g (pre ++ c :: post) = tabG g pre ++ (c.1, g (tabG g pre) c) :: r := by
    rw [show pre ++ c :: post = pre ++ [c] ++ post by simp, e, tabG_snoc]
    simp
  rw [e1, look_new (by rw [tabG_keys]; exact hn)]
  exact hP _ _
end
/-! ### put in by size -/
def putIn {α : Type} (less : α → α → Bool) (x : α) (l : List α) : List α := l.takeWhile (fun y => !less x y) ++ [x] ++ l.dropWhile (fun y => !less x y)
theorem putIn_perm {α : Type} (less : α → α → Bool) (x : α) (l : List α) : (putIn less x l).Perm (x :: l) := by
  unfold putIn
  have e : l.takeWhile (fun y => !less x y) ++ l.dropWhile (fun y => !less x y) = l := List.takeWhile_append_dropWhile
  rw [List.append_assoc]
  refine List.perm_middle.trans ?_
  show (x :: (l.takeWhile _ ++ l.dropWhile _)).Perm _
  rw [e]
theorem putIn_rise {α : Type} [DecidableEq α] {lt : α → α → Bool} {sz : α → Int × Int} (ok : ∀ a, okF (sz a)) (o : Ordr (lowF lt sz)) {x : α} {l : List α} (h : l.Pairwise fun a b => lowF lt sz a b = true) (hx : ∀ y ∈ l, lt y x = true) :
    (putIn (fun a b => lessF (sz a) (sz b)) x l).Pairwise fun a b => lowF lt sz a b = true := by
  unfold putIn
  have e : l.takeWhile (fun y => !lessF (sz x) (sz y)) ++ l.dropWhile (fun y => !lessF (sz x) (sz y)) = l := List.takeWhile_append_dropWhile
  have hA : ∀ a ∈ l.takeWhile (fun y => !lessF (sz x) (sz y)), lowF lt sz a x = true := fun a ha => by
    have h1 : (!lessF (sz x) (sz a)) = true := List.all_takeWhile (p := fun y => !lessF (sz x) (sz y)) (l := l) |> fun q => List.all_eq_true.mp q a ha
    have h2 : a ∈ l := by rw [← e]; exact List.mem_append_left _ ha
    rw [Bool.not_eq_true'] at h1
    unfold lowF
    by_cases q : sz a = sz x
    · rw [decide_eq_true q, hx a h2]; simp
    · rcases lessF_tri (ok a) (ok x) q with w | w
      · rw [w]; rfl
      · rw [w] at h1; cases h1
  have hB : ∀ b ∈ l.dropWhile (fun y => !lessF (sz x) (sz y)), lowF lt sz x b = true := by
    have pw : (l.dropWhile (fun y => !lessF (sz x) (sz y))).Pairwise fun a b => lowF lt sz a b = true := h.sublist (List.dropWhile_sublist _)
    cases q : l.dropWhile (fun y => !lessF (sz x) (sz y)) with
    | nil => intro b hb; cases hb
    | cons b0 B =>
      rw [q, List.pairwise_cons] at pw
      have h0 : lessF (sz x) (sz b0) = true := by
        have := List.head_dropWhile_not (l := l) (fun y => !lessF (sz x) (sz y)) (by rw [q]; simp)
        simp only [q, List.head_cons] at this
        simpa using this
      have l0 : lowF lt sz x b0 = true := by unfold lowF; rw [h0]; rfl
      intro b hb
      rcases List.mem_cons.mp hb with r | r
      · rw [r]; exact l0
      · exact o.tr _ _ _ l0 (pw.1 b r)
  rw [← e, List.pairwise_append] at h
  rw [List.pairwise_append]
  refine ⟨List.pairwise_append.mpr ⟨h.1, List.pairwise_singleton _ _, fun a ha b hb => ?_⟩, h.2.1, fun a ha b hb => ?_⟩
  · rw [List.mem_singleton] at hb
    rw [hb]; exact hA a ha
  · rcases List.mem_append.mp ha with q | q
    · exact h.2.2 a q b hb
    · rw [List.mem_singleton] at q
      rw [q]; exact hB b hb
/-- one after another, each of them above all that were put in by the other order -/
theorem putAll {α : Type} [DecidableEq α] {lt : α → α → Bool} {sz : α → Int × Int} (ok : ∀ a, okF (sz a)) (o : Ordr (lowF lt sz)) : ∀ (l f : List α), l.Pairwise (fun a b => lt a b = true) → (∀ y ∈ f, ∀ x ∈ l, lt y x = true) → f.Pairwise (fun a b => lowF lt sz a b = true) →
    (l.foldl (fun f x => putIn (fun a b => lessF (sz a) (sz b)) x f) f).Pairwise (fun a b => lowF lt sz a b = true) ∧ (l.foldl (fun f x => putIn (fun a b => lessF (sz a) (sz b)) x f) f).Perm (f ++ l)
  | [], f, _, _, h => ⟨h, by simp⟩
  | x :: l, f, hl, hf, h => by
    rw [List.pairwise_cons] at hl
    have pm := putIn_perm (fun a b => lessF (sz a) (sz b)) x f
    obtain ⟨h1, h2⟩ := putAll ok o l (putIn (fun a b => lessF (sz a) (sz b)) x f) hl.2 (fun y hy z hz => by
      rcases List.mem_cons.mp (pm.mem_iff.mp hy) with q | q
      · rw [q]; exact hl.1 z hz
      · exact hf y q z (List.mem_cons_of_mem _ hz)) (putIn_rise ok o h fun y hy => hf y hy x (List.mem_cons_self ..))
    exact ⟨h1, h2.trans ((pm.append_right l).trans (by simpa using (List.perm_middle (a := x) (l₁ := f) (l₂ := l)).symm))⟩
/-! ### scans -/
def scan {β : Type} (P : Nat → List β) : Nat → Nat → List β
  | _, 0 => []
  | s, n + 1 => match P s with
    | [] => []
    | q :: _ => q :: scan P (s + 1) n
theorem scan_end {β : Type} (P : Nat → List β) : ∀ (n s : Nat), (scan P s n).length ≤ n ∧ ((scan P s n).length < n → P (s + (scan P s n).length) = []) ∧ ∀ k, k < (scan P s n).length → P (s + k) ≠ []
  | 0, s => ⟨Nat.le_refl _, fun h => absurd h (Nat.not_lt_zero _), fun k h => absurd h (Nat.not_lt_zero _)⟩
  | n + 1, s => by
    unfold scan
    cases e : P s with
    | nil => exact ⟨Nat.zero_le _, fun _ => e, fun k h => absurd h (Nat.not_lt_zero _)⟩
    | cons q t =>
      obtain ⟨h1, h2, h3⟩ := scan_end P n (s + 1)
      refine ⟨by simp; omega, fun h => ?_, fun k hk => ?_⟩
      · simp only [List.length_cons] at h ⊢
        have := h2 (by omega)
        rw [show s + ((scan P (s + 1) n).length + 1) = s + 1 + (scan P (s + 1) n).length by omega]
        exact this
      · cases k with
        | zero => rw [Nat.add_zero, e]; simp
        | succ k =>
          simp only [List.length_cons] at hk
          have := h3 k (by omega)
          rw [show s + (k + 1) = s + 1 + k by omega]
          exact this
end Bl
/-! The mirrors' words, as equations for simp (printed by gen_eqs.py). -/
namespace Bl
open PySem PySem.Spec PyProof.Rows L2 Evl
@[simp] theorem e_sVar (i : Nat) (ρ : En) : sVar i ρ = (match ρ[i]? with
  | some (some _) => some (.pl i, ρ)
  | _ => none) := rfl
@[simp] theorem e_sC (d : D) (ρ : En) : sC d ρ = (some (.val d, ρ)) := rfl
@[simp] theorem e_sNil (ρ : En) : sNil  ρ = (some ([], ρ)) := rfl
@[simp] theorem e_sCons (f : Ev) (fs : Evs) (ρ : En) : sCons f fs ρ = ((f ρ).bind fun p => (rel p.2 p.1).bind fun q => (fs q.2).map fun z => (q.1 :: z.1, z.2)) := rfl
@[simp] theorem e_sOp (g : D → D → Option Opd) (f1 f2 : Ev) (ρ : En) : sOp g f1 f2 ρ = ((f1 ρ).bind fun p => (f2 p.2).bind fun q => (rd q.2 p.1).bind fun a => (rd q.2 q.1).bind fun b => (g a b).map fun w => (w, q.2)) := rfl
@[simp] theorem e_sUn (g : D → Option Opd) (f1 : Ev) (ρ : En) : sUn g f1 ρ = ((f1 ρ).bind fun p => (rd p.2 p.1).bind fun a => (g a).map fun w => (w, p.2)) := rfl
@[simp] theorem e_sTup (fs : Evs) (ρ : En) : sTup fs ρ = ((fs ρ).bind fun p => if p.1.length ≤ 1000000 then some (.val (.tup p.1), p.2) else none) := rfl
@[simp] theorem e_sLst (fs : Evs) (ρ : En) : sLst fs ρ = ((fs ρ).bind fun p => if p.1.length ≤ 1000000 then some (.own (.lst p.1), p.2) else none) := rfl
@[simp] theorem e_sB (f : Ev) (ρ : En) : sB f ρ = ((f ρ).bind fun p => match rd p.2 p.1 with
  | some (.bl b) => some (b, p.2)
  | _ => none) := rfl
@[simp] theorem e_sAnd (f g : Tv) (ρ : En) : sAnd f g ρ = ((f ρ).bind fun p => if p.1 = true then g p.2 else some (false, p.2)) := rfl
@[simp] theorem e_sOr (f g : Tv) (ρ : En) : sOr f g ρ = ((f ρ).bind fun p => if p.1 = true then some (true, p.2) else g p.2) := rfl
@[simp] theorem e_sNot (f : Tv) (ρ : En) : sNot f ρ = ((f ρ).map fun p => (!p.1, p.2)) := rfl
@[simp] theorem e_sIf (c : Tv) (f g : Ev) (ρ : En) : sIf c f g ρ = ((c ρ).bind fun p => if p.1 = true then f p.2 else g p.2) := rfl
@[simp] theorem e_sAndV (f g : Ev) (ρ : En) : sAndV f g ρ = ((sB f ρ).bind fun p => if p.1 = true then g p.2 else some (.val (.bl false), p.2)) := rfl
@[simp] theorem e_sOrV (f g : Ev) (ρ : En) : sOrV f g ρ = ((sB f ρ).bind fun p => if p.1 = true then some (.val (.bl true), p.2) else g p.2) := rfl
@[simp] theorem e_sNotV (f : Ev) (ρ : En) : sNotV f ρ = ((sB f ρ).map fun p => (.val (.bl (!p.1)), p.2)) := rfl
@[simp] theorem e_sSeq (f g : Sv) (ρ : En) : sSeq f g ρ = ((f ρ).bind fun o => match o with
  | .nx ρ' => g ρ'
  | o => some o) := rfl
@[simp] theorem e_sNext (ρ : En) : sNext  ρ = (some (.nx ρ)) := rfl
@[simp] theorem e_sExpr (f : Ev) (ρ : En) : sExpr f ρ = ((f ρ).map fun p => .nx p.2) := rfl
@[simp] theorem e_sRet (f : Ev) (ρ : En) : sRet f ρ = ((f ρ).bind fun p => match p.1 with
  | .pl i => (match p.2[i]? with
    | some (some (.v d)) => some (.rt (.val d) p.2)
    | some (some (.o d)) => some (.rt (.own d) (p.2.set i none))
    | _ => none)
  | w => some (.rt w p.2)) := rfl
@[simp] theorem e_sRetN (ρ : En) : sRetN  ρ = (some (.rt (.val .non) ρ)) := rfl
@[simp] theorem e_sIfS (c : Tv) (f g : Sv) (ρ : En) : sIfS c f g ρ = ((c ρ).bind fun p => if p.1 = true then f p.2 else g p.2) := rfl
@[simp] theorem e_sSet (i : Nat) (f : Ev) (ρ : En) : sSet i f ρ = ((f ρ).bind fun p => (stO i p.2 p.1).map .nx) := rfl
@[simp] theorem e_sAsg (f : Ev) (g : Gs) (ρ : En) : sAsg f g ρ = ((f ρ).bind fun p => (rel p.2 p.1).bind fun q => (g q.1 q.2).map .nx) := rfl
@[simp] theorem e_sPar (i j : Nat) (f g : Ev) (ρ : En) : sPar i j f g ρ = ((f ρ).bind fun p => (fixO p.2 p.1).bind fun p' => (g p'.2).bind fun q => (fixO q.2 q.1).bind fun q' => (stO i q'.2 p'.1).bind fun ρ1 => (stO j ρ1 q'.1).map .nx) := rfl
@[simp] theorem e_sFor (s : Src) (g : Gs) (f : Sv) (ρ : En) : sFor s g f ρ = ((s ρ).bind fun p => forL g f p.1 p.2) := rfl
@[simp] theorem e_sLc (s : Src) (ms vs : List Nat) (g : Gs) (t : Tv) (f : Ev) (ρ : En) : sLc s ms vs g t f ρ = ((s ρ).bind fun p => (lcL vs g t f p.1 [] (mask (ms ++ vs) p.2)).map fun q => (.own (.lst q.1), unmask (ms ++ vs) p.2 q.2)) := rfl
@[simp] theorem e_sYes (ρ : En) : sYes  ρ = (some (true, ρ)) := rfl
@[simp] theorem e_sNoPart (ρ : En) : sNoPart  ρ = (some (none, ρ)) := rfl
@[simp] theorem e_sPart (f : Ev) (ρ : En) : sPart f ρ = ((f ρ).bind fun p => match rd p.2 p.1 with
  | some (.int i) => some (some i, p.2)
  | _ => none) := rfl
@[simp] theorem e_sSlice (f : Ev) (l h : Ov) (ρ : En) : sSlice f l h ρ = ((f ρ).bind fun p => (l p.2).bind fun a => (h a.2).bind fun b => (rd b.2 p.1).bind fun d => (cutO a.1 b.1 d).map fun w => (w, b.2)) := rfl
@[simp] theorem e_cRel (f : Ev) (ρ : En) : cRel f ρ = ((f ρ).bind fun p => (rel p.2 p.1).bind fun q => (seqOf q.1).map fun ds => (ds, q.2)) := rfl
@[simp] theorem e_cPl (i : Nat) (ρ : En) : cPl i ρ = (((cur ρ i).bind seqOf).map fun ds => (ds, ρ)) := rfl
@[simp] theorem e_cZip (fs : Evs) (ρ : En) : cZip fs ρ = ((fs ρ).bind fun p => match p.1 with
  | [.lst a, .lst b] => if a.any isPr = false then some (List.zipWith (fun x y => .tup [x, y]) a b, p.2) else none
  | [.tup a, .tup b] => if a.any isPr = false then some (List.zipWith (fun x y => .tup [x, y]) a b, p.2) else none
  | _ => none) := rfl
@[simp] theorem e_cEnum (fs : Evs) (ρ : En) : cEnum fs ρ = ((fs ρ).bind fun p => match p.1 with
  | [.lst a] => some (enumF 0 a, p.2)
  | _ => none) := rfl
@[simp] theorem e_cRng1 (fs : Evs) (ρ : En) : cRng1 fs ρ = ((fs ρ).bind fun p => match p.1 with
  | [.int j] => if -1000000 ≤ j ∧ j ≤ 1000000 then some (rngF 0 j.toNat, p.2) else none
  | _ => none) := rfl
@[simp] theorem e_cRng2 (fs : Evs) (ρ : En) : cRng2 fs ρ = ((fs ρ).bind fun p => match p.1 with
  | [.int i, .int j] => if (-1000000 ≤ i ∧ i ≤ 1000000) ∧ -1000000 ≤ j ∧ j ≤ 1000000 then some (rngF i (j - i).toNat, p.2) else none
  | _ => none) := rfl
@[simp] theorem e_cStr (f : Ev) (ρ : En) : cStr f ρ = ((f ρ).bind fun p => match rd p.2 p.1 with
  | some (.str x) => some (signs x, p.2)
  | _ => none) := rfl
@[simp] theorem e_sApp (i : Nat) (f : Ev) (ρ : En) : sApp i f ρ = ((ownL ρ i).bind fun _ => (f ρ).bind fun p => (rel p.2 p.1).bind fun q => (ownL q.2 i).bind fun ds =>
  if ds.length < 1000000 then some (.val .non, q.2.set i (some (.o (.lst (ds ++ [q.1]))))) else none) := rfl
@[simp] theorem e_sPopAt (i : Nat) (f : Ev) (ρ : En) : sPopAt i f ρ = ((ownL ρ i).bind fun _ => (f ρ).bind fun p => (rel p.2 p.1).bind fun q => match q.1 with
  | .int j => (ownL q.2 i).bind fun ds => if -1000000 ≤ j ∧ j ≤ 1000000 then (seqIndex? j ds.length).bind fun k => (ds[k]?).map fun y => (.val y, q.2.set i (some (.o (.lst (ds.eraseIdx k))))) else none
  | _ => none) := rfl
@[simp] theorem e_sSetIx (i : Nat) (fk f : Ev) (ρ : En) : sSetIx i fk f ρ = ((f ρ).bind fun p => (rel p.2 p.1).bind fun q => (ownL q.2 i).bind fun _ => (fk q.2).bind fun z => match rd z.2 z.1 with
  | some (.int j) => (ownL z.2 i).bind fun ds => (ixN ds.length j).map fun n => .nx (z.2.set i (some (.o (.lst (ds.set n q.1)))))
  | _ => none) := rfl
@[simp] theorem e_sCall (m : List D → Option Opd) (fs : Evs) (ρ : En) : sCall m fs ρ = ((fs ρ).bind fun p => (m p.1).map fun w => (w, p.2)) := rfl
@[simp] theorem e_sCallI (i : Nat) (m : D → List D → Option (Opd × D)) (fs : Evs) (ρ : En) : sCallI i m fs ρ = ((cur ρ i).bind fun _ => (fs ρ).bind fun p => match p.2[i]? with
  | some (some (.o d)) => (m d p.1).map fun z => (z.1, p.2.set i (some (.o z.2)))
  | _ => none) := rfl
@[simp] theorem e_sMeth (c : Str) (m : List D → Option Opd) (f : Ev) (fs : Evs) (ρ : En) : sMeth c m f fs ρ = ((f ρ).bind fun p => (rel p.2 p.1).bind fun q => if isCls c q.1 = true then (fs q.2).bind fun z => (m (q.1 :: z.1)).map fun w => (w, z.2) else none) := rfl
@[simp] theorem e_sMake (m : List D → Option D) (fs : Evs) (ρ : En) : sMake m fs ρ = ((fs ρ).bind fun p => (m p.1).map fun d => (.val d, p.2)) := rfl
@[simp] theorem e_sChain (g g' : D → D → Option Opd) (f1 f2 f3 : Ev) (ρ : En) : sChain g g' f1 f2 f3 ρ = ((f1 ρ).bind fun p => (f2 p.2).bind fun q => (rd q.2 p.1).bind fun a => (rd q.2 q.1).bind fun b => match g a b with
  | some (.val (.bl true)) => (f3 q.2).bind fun z => (rd z.2 q.1).bind fun b' => (rd z.2 z.1).bind fun c => (g' b' c).map fun w => (w, z.2)
  | some (.val (.bl false)) => some (.val (.bl false), q.2)
  | _ => none) := rfl
@[simp] theorem e_sRemove (i : Nat) (f : Ev) (ρ : En) : sRemove i f ρ = ((ownL ρ i).bind fun _ => (f ρ).bind fun p => (rel p.2 p.1).bind fun q => match q.1 with
  | .str y => (ownL q.2 i).bind fun ds => (strsD ds).bind fun ss => (ss.idxOf? y).map fun j => (.val .non, q.2.set i (some (.o (.lst ((ss.eraseIdx j).map D.str)))))
  | _ => none) := rfl
@[simp] theorem e_sPar3 (i j l : Nat) (f g h : Ev) (ρ : En) : sPar3 i j l f g h ρ = ((f ρ).bind fun p => (rel p.2 p.1).bind fun p' => (g p'.2).bind fun q => (fixO q.2 q.1).bind fun q' => (h q'.2).bind fun z => (rel z.2 z.1).bind fun z' =>
  (stO j ((z'.2).set i (some (.v p'.1))) q'.1).map fun ρ1 => .nx (ρ1.set l (some (.v z'.1)))) := rfl
@[simp] theorem e_sCallP (is : List Nat) (m : List D → Option Opd) (fs : Evs) (ρ : En) : sCallP is m fs ρ = ((fs ρ).bind fun p => (m (permL .non is p.1)).map fun w => (w, p.2)) := rfl
@[simp] theorem e_sDc (s : Src) (ms vs : List Nat) (g : Gs) (t : Tv) (fk f : Ev) (ρ : En) : sDc s ms vs g t fk f ρ = ((s ρ).bind fun p => (dcL vs g t fk f p.1 [] (mask (ms ++ vs) p.2)).map fun q => (.own (.dic q.1), unmask (ms ++ vs) p.2 q.2)) := rfl
@[simp] theorem e_sUpd (i : Nat) (f : Ev) (ρ : En) : sUpd i f ρ = ((ownD ρ i).bind fun _ => (f ρ).bind fun p => (rel p.2 p.1).bind fun q => match q.1 with
  | .dic more => (ownD q.2 i).bind fun ds => if ds.length + more.length ≤ 1000000 then some (.val .non, q.2.set i (some (.o (.dic (mergeD ds more))))) else none
  | _ => none) := rfl
@[simp] theorem e_sNewD (ρ : En) : sNewD  ρ = (some (.own (.dic []), ρ)) := rfl
@[simp] theorem e_sOrT (f g : Ev) (ρ : En) : sOrT f g ρ = ((f ρ).bind fun p => match rd p.2 p.1 with
  | some (.lst []) => g p.2
  | some (.lst (_ :: _)) => some p
  | _ => none) := rfl
@[simp] theorem e_sCallT (m : D → List D → Option (Opd × D)) (f : Ev) (fs : Evs) (ρ : En) : sCallT m f fs ρ = ((f ρ).bind fun p => match p.1 with
  | .own d => (fs p.2).bind fun q => (m d q.1).map fun z => (z.1, q.2)
  | _ => none) := rfl
@[simp] theorem e_sBor (is : List Nat) (f : Ev) (ρ : En) : sBor is f ρ = ((f (giveL is ρ)).bind fun p => match p.1 with
  | .val d => if flatD d = true then (borL (giveL is ρ) p.2).map fun ρ' => (.val d, ρ') else none
  | _ => none) := rfl
@[simp] theorem e_sIns (i : Nat) (fk f : Ev) (ρ : En) : sIns i fk f ρ = ((ownL ρ i).bind fun _ => (fk ρ).bind fun p => (rel p.2 p.1).bind fun a => (f a.2).bind fun q => (rel q.2 q.1).bind fun b => match a.1 with
  | .int k => (ownL b.2 i).bind fun ds => if 0 ≤ k ∧ k ≤ 1000000 ∧ ds.length < 1000000 then some (.val .non, b.2.set i (some (.o (.lst (ds.take k.toNat ++ [b.1] ++ ds.drop k.toNat))))) else none
  | _ => none) := rfl
@[simp] theorem e_sLc2 (s : Src) (ms vs vs1 : List Nat) (g : Gs) (t : Tv) (s1 : Src) (g1 : Gs) (t1 : Tv) (f : Ev) (ρ : En) : sLc2 s ms vs vs1 g t s1 g1 t1 f ρ = ((s ρ).bind fun p => (lcL2 vs vs1 g t s1 g1 t1 f p.1 [] (mask (ms ++ vs) p.2)).map fun q => (.own (.lst q.1), unmask (ms ++ vs) p.2 q.2)) := rfl
@[simp] theorem e_sConsO (f : Ev) (fs : Evs) (ρ : En) : sConsO f fs ρ = ((f ρ).bind fun p => match p.1 with
  | .own d => (fs p.2).map fun z => (d :: z.1, z.2)
  | _ => none) := rfl
@[simp] theorem e_sMark (i k : Nat) (is : List Nat) (fs : Evs) (rest : En → Sv) (ρ : En) : sMark i k is fs rest ρ = ((fs (giveL is ρ)).bind fun p => if p.1.length ≤ 1000000 ∧ isLst p.1[k]? = true ∧ i < p.2.length then rest (giveL is ρ) (p.2.set i (some (.v (.lst p.1)))) else none) := rfl
@[simp] theorem e_hSub (i : Nat) (fk : Ev) (d : D) (ρ : En) : hSub i fk d ρ = ((ownD ρ i).bind fun _ => (fk ρ).bind fun p => match rd p.2 p.1 with
  | some dk => (keyD dk).bind fun key => (ownD p.2 i).bind fun ds => if ds.length < 1000000 then some (p.2.set i (some (.o (.dic (putD ds key d))))) else none
  | none => none) := rfl
@[simp] theorem e_hName (i : Nat) (d : D) (ρ : En) : hName i d ρ = (some (ρ.set i (some (.v d)))) := rfl
@[simp] theorem e_hNil (ds : List D) (ρ : En) : hNil  ds ρ = (match ds with
  | [] => some ρ
  | _ => none) := rfl
@[simp] theorem e_hCons (f : Gs) (g : Gss) (ds : List D) (ρ : En) : hCons f g ds ρ = (match ds with
  | d :: r => (f d ρ).bind (g r)
  | _ => none) := rfl
@[simp] theorem e_hTup (n : Nat) (g : Gss) (d : D) (ρ : En) : hTup n g d ρ = (match d with
  | .tup ds => if ds.length = n then g ds ρ else none
  | _ => none) := rfl
@[simp] theorem e_sTB (c : Tv) (ρ : En) : sTB c ρ = ((c ρ).map fun p => (.val (.bl p.1), p.2)) := rfl
@[simp] theorem e_cEnumU (fs : Evs) (ρ : En) : cEnumU fs ρ = ((fs ρ).bind fun p => match p.1 with
  | [.lst a] => some (enumF 0 a, p.2)
  | [.tup a] => some (enumF 0 a, p.2)
  | _ => none) := rfl
@[simp] theorem e_oNil (ρ : En) : oNil  ρ = (some ([], ρ)) := rfl
@[simp] theorem e_oCons (f : Ev) (fs : Evo) (ρ : En) : oCons f fs ρ = ((f ρ).bind fun p => (fixO p.2 p.1).bind fun q => (fs q.2).map fun z => (q.1 :: z.1, z.2)) := rfl
@[simp] theorem e_sParN (is : List Nat) (fs : Evo) (ρ : En) : sParN is fs ρ = ((fs ρ).bind fun p => if p.1.length ≤ 1000 then (stN is p.1 p.2).map .nx else none) := rfl
@[simp] theorem e_stO_1 (i : Nat) (ρ : En) {d} : stO i ρ (.val d) = (some (ρ.set i (some (.v d)))) := rfl
@[simp] theorem e_stO_2 (i : Nat) (ρ : En) {d} : stO i ρ (.own d) = (some (ρ.set i (some (.o d)))) := rfl
@[simp] theorem e_stO_3 (i : Nat) (ρ : En) {j} : stO i ρ (.pl j) = ((relP ρ j).map fun q => q.2.set i (some (.v q.1))) := rfl
@[simp] theorem e_fixO_1 (ρ : En) {j} : fixO ρ (.pl j) = ((relP ρ j).map fun q => (.val q.1, q.2)) := rfl
@[simp] theorem e_iOp_1 (g : Int → Int → Option Int) {i j} : iOp g (.int i) (.int j) = ((g i j).map fun z => .val (.int z)) := rfl
@[simp] theorem e_iCmp_1 (g : Int → Int → Bool) {i j} : iCmp g (.int i) (.int j) = (some (.val (.bl (g i j)))) := rfl
@[simp] theorem e_catL_1 {a b} : catL  (.lst a) (.lst b) = (if a.length + b.length ≤ 1000000 then some (.own (.lst (a ++ b))) else none) := rfl
@[simp] theorem e_catS_1 {a b} : catS  (.str a) (.str b) = (if a.length + b.length ≤ 1000000 then some (.val (.str (a ++ b))) else none) := rfl
@[simp] theorem e_repL_1 {a k} : repL  (.lst a) (.int k) = (if 0 ≤ k ∧ k < 1000 ∧ a.length ≤ 1000 then some (.own (.lst (List.replicate k.toNat a).flatten)) else none) := rfl
@[simp] theorem e_ltS_1 {a b} : ltS  (.str a) (.str b) = (some (.val (.bl (decide (a.cps.toList < b.cps.toList))))) := rfl
@[simp] theorem e_isO_1 {a} : isO  a .non = (some (.val (.bl (isNonD a)))) := rfl
@[simp] theorem e_isntO_1 {a} : isntO  a .non = (some (.val (.bl (!isNonD a)))) := rfl
@[simp] theorem e_cutO_1 (lo hi : Option Int) {ds} : cutO lo hi (.lst ds) = (some (.own (.lst (cutD ds lo hi)))) := rfl
@[simp] theorem e_cutO_2 (lo hi : Option Int) {ds} : cutO lo hi (.tup ds) = (if allP (cutD ds lo hi) then none else some (.val (.tup (cutD ds lo hi)))) := rfl
@[simp] theorem e_cutO_3 (lo hi : Option Int) {ns} : cutO lo hi (.scr ns) = (some (.own (.lst (cutD (ns.map D.int) lo hi)))) := rfl
@[simp] theorem e_lenD_1 {ds} : lenD  (.lst ds) = (some (.val (.int ds.length))) := rfl
@[simp] theorem e_lenD_2 {ds} : lenD  (.tup ds) = (some (.val (.int ds.length))) := rfl
@[simp] theorem e_lenD_3 {x} : lenD  (.str x) = (if x.length ≤ 1000000 then some (.val (.int x.length)) else none) := rfl
@[simp] theorem e_absD_1 {i} : absD  (.int i) = (some (.val (.int (if i < 0 then -i else i)))) := rfl
@[simp] theorem e_intD_1 {i} : intD  (.int i) = (some (.val (.int i))) := rfl
@[simp] theorem e_intD_2 {b} : intD  (.bl b) = (some (.val (.int (if b then 1 else 0)))) := rfl
@[simp] theorem e_listD_1 {ds} : listD  (.lst ds) = (some (.own (.lst ds))) := rfl
@[simp] theorem e_listD_2 {ds} : listD  (.tup ds) = (some (.own (.lst ds))) := rfl
@[simp] theorem e_tupleD_1 {ds} : tupleD  (.lst ds) = (some (.val (.tup ds))) := rfl
@[simp] theorem e_tupleD_2 {ds} : tupleD  (.tup ds) = (some (.val (.tup ds))) := rfl
@[simp] theorem e_allD_1 {ds} : allD  (.lst ds) = ((bools ds).map fun bs => .val (.bl (bs.all id))) := rfl
@[simp] theorem e_seqOf_1 {ds} : seqOf  (.lst ds) = (some ds) := rfl
@[simp] theorem e_seqOf_2 {ds} : seqOf  (.tup ds) = (some ds) := rfl
@[simp] theorem e_isB_1 {a b} : isB  (.bl a) (.bl b) = (some (.val (.bl (decide (a = b))))) := rfl
@[simp] theorem e_fldO_1 (c : Str) (i : Nat) {c' fs} : fldO c i (.obj c' fs) = (if c' = c then (match fs[i]? with
    | some (some d) => some (.val d)
    | _ => none) else none) := rfl
@[simp] theorem e_isCls_1 (c : Str) {c' w0} : isCls c (.obj c' w0) = (decide (c' = c)) := rfl
@[simp] theorem e_negD_1 {i} : negD  (.int i) = (some (.val (.int (-i)))) := rfl
@[simp] theorem e_sortSetO_1 {ds} : sortSetO  (.lst ds) = ((strsD ds).bind fun xs => if xs.length < 4000 then some (.own (.lst ((sortS (uniq xs)).map D.str))) else none) := rfl
@[simp] theorem e_listDicO_1 {ds} : listDicO  (.dic ds) = (some (.own (.lst (ds.map fun kv => dOf kv.1)))) := rfl
@[simp] theorem e_sortDicO_1 {ds} : sortDicO  (.dic ds) = ((txtKs ds).bind fun ks => if ks.length < 64 then some (.own (.lst ((sortS ks).map D.str))) else none) := rfl
@[simp] theorem e_dictL_1 {ds} : dictL  (.lst ds) = ((pairsD ds).map fun kvs => .own (.dic (mergeD [] kvs))) := rfl
@[simp] theorem e_dictT_1 {ds} : dictT  (.tup ds) = (if allP ds then (pairsD ds).map fun kvs => .own (.dic (mergeD [] kvs)) else none) := rfl
@[simp] theorem e_sortO_1 {ds} : sortO  (.lst ds) = (if okSort ds then some (.own (.lst (ds.mergeSort leD))) else none) := rfl
@[simp] theorem e_rd_1 (ρ : En) {d} : rd ρ (.val d) = (some d) := rfl
@[simp] theorem e_rd_2 (ρ : En) {d} : rd ρ (.own d) = (some d) := rfl
@[simp] theorem e_rd_3 (ρ : En) {i} : rd ρ (.pl i) = (cur ρ i) := rfl
@[simp] theorem e_rel_1 (ρ : En) {d} : rel ρ (.val d) = (some (d, ρ)) := rfl
@[simp] theorem e_rel_2 (ρ : En) {d} : rel ρ (.own d) = (some (d, ρ)) := rfl
@[simp] theorem e_rel_3 (ρ : En) {i} : rel ρ (.pl i) = (relP ρ i) := rfl
@[simp] theorem e_mask_1 {ρ} : mask  [] ρ = (ρ) := rfl
@[simp] theorem e_mask_2 {v vs ρ} : mask  (v :: vs) ρ = ((mask vs ρ).set v none) := rfl
@[simp] theorem e_unmask_1 {v vs ρ0 ρ} : unmask  (v :: vs) ρ0 ρ = ((unmask vs ρ0 ρ).set v (ρ0.getD v none)) := rfl
@[simp] theorem e_isNonD_1 : isNonD  .non = (true) := rfl
@[simp] theorem e_tyName_1 : tyName  .non = (some "NoneType") := rfl
@[simp] theorem e_tyName_2 {w0} : tyName  (.bl w0) = (some "bool") := rfl
@[simp] theorem e_tyName_3 {w0} : tyName  (.int w0) = (some "int") := rfl
@[simp] theorem e_tyName_4 {w0} : tyName  (.str w0) = (some "str") := rfl
@[simp] theorem e_tyName_5 {w0} : tyName  (.lst w0) = (some "list") := rfl
@[simp] theorem e_tyName_6 {w0} : tyName  (.tup w0) = (some "tuple") := rfl
@[simp] theorem e_tyName_7 {w0} : tyName  (.dic w0) = (some "dict") := rfl
@[simp] theorem e_tyName_8 {w0 w1} : tyName  (.obj w0 w1) = (none) := rfl
@[simp] theorem e_tyName_9 {w0} : tyName  (.scr w0) = (none) := rfl
@[simp] theorem e_tyName_10 {w0} : tyName  (.dicF w0) = (none) := rfl
@[simp] theorem e_Ent_d_1 {d} : Ent.d  (.v d) = (d) := rfl
@[simp] theorem e_Ent_d_2 {d} : Ent.d  (.o d) = (d) := rfl
@[simp] theorem e_keyD_1 {i} : keyD  (.int i) = (some (.inl i)) := rfl
@[simp] theorem e_keyD_2 {x} : keyD  (.str x) = (some (.inr x)) := rfl
@[simp] theorem e_strsD_1 : strsD  [] = (some []) := rfl
@[simp] theorem e_strsD_2 {x ds} : strsD  (.str x :: ds) = ((strsD ds).map fun l => x :: l) := rfl
@[simp] theorem e_pairsD_1 : pairsD  [] = (some []) := rfl
@[simp] theorem e_pairsD_2 {k v ds} : pairsD  (.tup [k, v] :: ds) = ((keyD k).bind fun q => (pairsD ds).map fun l => (q, v) :: l) := rfl
@[simp] theorem e_txtKs_1 : txtKs  [] = (some []) := rfl
@[simp] theorem e_txtKs_2 {x w0 ds} : txtKs  ((.inr x, w0) :: ds) = ((txtKs ds).map fun l => x :: l) := rfl
@[simp] theorem e_bools_1 : bools  [] = (some []) := rfl
@[simp] theorem e_bools_2 {b ds} : bools  (.bl b :: ds) = ((bools ds).map fun l => b :: l) := rfl
@[simp] theorem e_flatL_1 {ds} : flatL  (.lst ds) = (ds.all flatD) := rfl
@[simp] theorem e_flatO_1 {d} : flatO  (.val d) = (flatD d) := rfl
@[simp] theorem e_flatO_2 {d} : flatO  (.own d) = (flatL d) := rfl
@[simp] theorem e_flatO_3 {w0} : flatO  (.pl w0) = (false) := rfl
@[simp] theorem e_relP (ρ : En) (i : Nat) : relP ρ i = (match ρ[i]? with
  | some (some (.v d)) => some (d, ρ)
  | some (some (.o d)) => some (d, ρ.set i (some (.v d)))
  | _ => none) := rfl
@[simp] theorem e_cur (ρ : En) (i : Nat) : cur ρ i = (match ρ[i]? with
  | some (some e) => some e.d
  | _ => none) := rfl
@[simp] theorem e_ownL (ρ : En) (i : Nat) : ownL ρ i = (match ρ[i]? with
  | some (some (.o (.lst ds))) => some ds
  | _ => none) := rfl
@[simp] theorem e_ownD (ρ : En) (i : Nat) : ownD ρ i = (match ρ[i]? with
  | some (some (.o (.dic ds))) => some ds
  | _ => none) := rfl
@[simp] theorem e_isiO (ns : List String) (d : D) : isiO ns d = ((tyName d).bind fun t => (isAny t ns).map fun b => .val (.bl b)) := rfl
@[simp] theorem e_startE (n : Nat) (ds : List D) : startE n ds = (ds.map (fun d => some (.v d)) ++ List.replicate (n - ds.length) none) := rfl
@[simp] theorem e_runP (n : Nat) (f : Sv) (ds : List D) : runP n f ds = (match f (startE n ds) with
  | some (.rt w _) => some w
  | some (.nx _) => some (.val .non)
  | _ => none) := rfl
@[simp] theorem e_startI (n : Nat) (d : D) (ds : List D) : startI n d ds = (some (.o d) :: (ds.map (fun d => some (.v d)) ++ List.replicate (n - (ds.length + 1)) none)) := rfl
@[simp] theorem e_runI (n : Nat) (f : Sv) (d : D) (ds : List D) : runI n f d ds = (match f (startI n d ds) with
  | some (.rt w ρ) => (match (ρ[0]? : Option (Option Ent)) with
    | some (some (.o d')) => some (w, d')
    | _ => none)
  | some (.nx ρ) => (match (ρ[0]? : Option (Option Ent)) with
    | some (some (.o d')) => some (.val .non, d')
    | _ => none)
  | _ => none) := rfl
@[simp] theorem e_sLook (i : Nat) (d : D) (f : Ev) (ρ : En) : sLook i d f ρ = ((f (ρ.set i (some (.v d)))).bind fun p => if flatO p.1 = true then (borL (ρ.set i (some (.v d))) p.2).map fun ρ' => (p.1, ρ'.set i none) else none) := rfl
@[simp] theorem e_rSeq (f g : Rv) (ρ : En) (off : List D) (rw : D) : rSeq f g ρ off rw = ((f ρ off rw).bind fun z => g z.1 z.2.1 z.2.2) := rfl
@[simp] theorem e_rLook (pl ru : D) (i : Nat) (f : Ev) (ρ : En) (off : List D) (rw : D) : rLook pl ru i f ρ off rw = ((sLook 0 (runD pl off rw ru) f ρ).bind fun p => (stO i p.2 p.1).map fun ρ' => (ρ', off, rw)) := rfl
@[simp] theorem e_rPl (f : Sv) (ρ : En) (off : List D) (rw : D) : rPl f ρ off rw = (match f ρ with
  | some (.nx ρ') => some (ρ', off, rw)
  | _ => none) := rfl
@[simp] theorem e_rIf (pl ru : D) (c : Tv) (f g : Rv) (ρ : En) (off : List D) (rw : D) : rIf pl ru c f g ρ off rw = ((sLook 0 (runD pl off rw ru) (sTB c) ρ).bind fun p => match p.1 with
  | .val (.bl true) => f p.2 off rw
  | .val (.bl false) => g p.2 off rw
  | _ => none) := rfl
@[simp] theorem e_rSetIf (pl ru : D) (i : Nat) (c : Tv) (f g : Ev) (ρ : En) (off : List D) (rw : D) : rSetIf pl ru i c f g ρ off rw = rIf pl ru c (rPl (sSet i f)) (rPl (sSet i g)) ρ off rw := rfl
@[simp] theorem e_rOff (i : Nat) (ρ : En) (off : List D) (rw : D) : rOff i ρ off rw = (match ρ[i]? with
  | some (some (.v d)) => if off.length < 1000000 then some (ρ, off ++ [d], rw) else none
  | _ => none) := rfl
@[simp] theorem e_rRow (pl ru : D) (f : Ev) (ρ : En) (off : List D) (rw : D) : rRow pl ru f ρ off rw = ((sLook 0 (runD pl off rw ru) f ρ).bind fun p => (rel p.2 p.1).map fun q => (q.2, off, q.1)) := rfl
@[simp] theorem e_stN_n {ws : List Opd} {ρ : En} : stN [] [] ρ = some ρ := rfl
@[simp] theorem e_stN_c {i : Nat} {is : List Nat} {w : Opd} {ws : List Opd} {ρ : En} : stN (i :: is) (w :: ws) ρ = ((stO i ρ w).bind fun ρ' => stN is ws ρ') := rfl
@[simp] theorem sortU_l {ds : List D} : sortU (.lst ds) = if okSort ds then some (.own (.lst (ds.mergeSort leD))) else none := by
  show Option.or (sortO (.lst ds)) none = _
  rw [Option.or_none]; rfl
@[simp] theorem sortU_t {ds : List D} : sortU (.tup ds) = (strsD ds).bind fun xs => if xs.length ≤ 100000 then some (.own (.lst ((sortS xs).map D.str))) else none := rfl
@[simp] theorem e_mSeq (f : Sv) (g : En → Sv) (ρ0 ρ : En) : mSeq f g ρ0 ρ = ((f ρ).bind fun o => match o with
  | .nx ρ' => g ρ0 ρ'
  | o => some o) := rfl
@[simp] theorem e_mApp (ad : List Nat) (g : Sv) (ρ0 ρ : En) : mApp ad g ρ0 ρ = if ρ.length = ρ0.length then g (backL ad 0 ρ0 ρ) else none := rfl
@[simp] theorem backL_n {ad : List Nat} {n : Nat} {ρ : En} : backL ad n [] ρ = [] := rfl
@[simp] theorem backL_c {ad : List Nat} {n : Nat} {x : Option Ent} {ρ0 ρ : En} : backL ad n (x :: ρ0) ρ = (if n ∈ ad then none else bor2 x (ρ.headD none)) :: backL ad (n + 1) ρ0 ρ.tail := rfl
@[simp] theorem bor2_o {d : D} {e : Ent} : bor2 (some (.o d)) (some e) = if flatL e.d = true then some (.o e.d) else none := rfl
@[simp] theorem bor2_v {d : D} {y : Option Ent} : bor2 (some (.v d)) y = some (.v d) := rfl
@[simp] theorem bor2_n {y : Option Ent} : bor2 none y = none := rfl
@[simp] theorem isLst_l {ds : List D} : isLst (some (.lst ds)) = decide (ds.length < 1000000) := rfl
@[simp] theorem flatD_s {x : Str} : flatD (.str x) = true := rfl
@[simp] theorem flatD_i {x : Int} : flatD (.int x) = true := rfl
@[simp] theorem flatD_b {x : Bool} : flatD (.bl x) = true := rfl
@[simp] theorem flatD_n : flatD .non = true := rfl
@[simp] theorem addU_t {a b : List D} : addU (.tup a) (.tup b) = if a.length + b.length ≤ 1000000 ∧ allP (a ++ b) = false then some (.val (.tup (a ++ b))) else none := by
  show Option.or none (Option.or none (Option.or (catT (.tup a) (.tup b)) none)) = _
  rw [Option.none_or, Option.none_or, Option.or_none]; rfl
@[simp] theorem isPr_s {x : Str} : isPr (.str x) = false := rfl
@[simp] theorem isPr_i {x : Int} : isPr (.int x) = false := rfl
@[simp] theorem isPr_b {x : Bool} : isPr (.bl x) = false := rfl
@[simp] theorem isPr_l {x : List D} : isPr (.lst x) = false := rfl
@[simp] theorem isPr_n : isPr .non = false := rfl
@[simp] theorem bor1_o {d : D} {e : Ent} : bor1 (some (.o d)) (some e) = if flatL e.d = true then some (some (.o e.d)) else none := rfl
@[simp] theorem bor1_v {d : D} {y : Option Ent} : bor1 (some (.v d)) y = some (some (.v d)) := rfl
@[simp] theorem bor1_n {y : Option Ent} : bor1 none y = some none := rfl
@[simp] theorem borL_n {ρ : En} : borL [] ρ = some [] := rfl
@[simp] theorem borL_c {x : Option Ent} {ρ ρ1 : En} : borL (x :: ρ) ρ1 = ((bor1 x (ρ1.headD none)).bind fun y => (borL ρ ρ1.tail).map fun l => y :: l) := rfl
@[simp] theorem giveL_n {ρ : En} : giveL [] ρ = ρ := rfl
@[simp] theorem giveL_c {i : Nat} {is : List Nat} {ρ : En} : giveL (i :: is) ρ = giveL is (match ρ[i]? with
    | some (some (.o d)) => ρ.set i (some (.v d))
    | _ => ρ) := rfl
@[simp] theorem fixO_v (ρ : En) {d : D} : fixO ρ (.val d) = some (.val d, ρ) := rfl
@[simp] theorem fixO_o (ρ : En) {d : D} : fixO ρ (.own d) = some (.own d, ρ) := rfl
@[simp] theorem unmask_n {ρ0 ρ : En} : unmask [] ρ0 ρ = ρ := rfl
@[simp] theorem isNonD_b {b : Bool} : isNonD (.bl b) = false := rfl
@[simp] theorem isNonD_i {b : Int} : isNonD (.int b) = false := rfl
@[simp] theorem isNonD_s {b : Str} : isNonD (.str b) = false := rfl
@[simp] theorem isNonD_l {b : List D} : isNonD (.lst b) = false := rfl
@[simp] theorem isNonD_t {b : List D} : isNonD (.tup b) = false := rfl
@[simp] theorem addU_i {i j : Int} : addU (.int i) (.int j) = some (.val (.int (i + j))) := rfl
@[simp] theorem addU_l {a b : List D} : addU (.lst a) (.lst b) = if a.length + b.length ≤ 1000000 then some (.own (.lst (a ++ b))) else none := by
  show Option.or none (Option.or (catL (.lst a) (.lst b)) (Option.or none none)) = _
  rw [Option.none_or, Option.or_none, Option.or_none]; rfl
@[simp] theorem mulU_i {i j : Int} : mulU (.int i) (.int j) = (mulI i j).map fun z => .val (.int z) := by
  show Option.or ((mulI i j).map fun z => Opd.val (.int z)) none = _
  rw [Option.or_none]
@[simp] theorem mulU_l {a : List D} {k : Int} : mulU (.lst a) (.int k) = if 0 ≤ k ∧ k < 1000 ∧ a.length ≤ 1000 then some (.own (.lst (List.replicate k.toNat a).flatten)) else none := rfl
@[simp] theorem ltU_i {i j : Int} : ltU (.int i) (.int j) = some (.val (.bl (decide (i < j)))) := rfl
@[simp] theorem ltU_s {i j : Str} : ltU (.str i) (.str j) = some (.val (.bl (decide (i.cps.toList < j.cps.toList)))) := rfl
@[simp] theorem ixSeq_l {ds : List D} {i : Int} : ixSeq (.lst ds) (.int i) = (atI ds i).map .val := rfl
@[simp] theorem ixSeq_t {ds : List D} {i : Int} : ixSeq (.tup ds) (.int i) = (atI ds i).map .val := rfl
@[simp] theorem e_sLend (js ad : List Nat) (f g : Sv) (ρ : En) : sLend js ad f g ρ = ((f (giveL js ρ)).bind fun o => match o with
  | .nx ρ1 => if ρ1.length = ρ.length then g (lendL js ad 0 ρ ρ1) else none
  | o => some o) := rfl
@[simp] theorem ixDic_f {ks : List (Key × D)} {y : D} : ixDic (.dicF ks) y = (keyD y).bind fun k => (getK ks k).map .val := rfl
@[simp] theorem inDic_f {n : Bool} {ks : List (Key × D)} {x : D} : inDic n x (.dicF ks) = (keyD x).map fun k => .val (.bl (if n then !(getK ks k).isSome else (getK ks k).isSome)) := rfl
@[simp] theorem e_sFz (f : Ev) (ρ : En) : sFz f ρ = ((f ρ).bind fun p => match p.1 with
  | .own (.dic ks) => some (.val (.dicF ks), p.2)
  | _ => none) := rfl
@[simp] theorem e_cOwn (c : Str) (i : Nat) (f : Ev) (ρ : En) : cOwn c i f ρ = ((f ρ).bind fun p => (rel p.2 p.1).bind fun q => (keysIn c i q.1).map fun ds => (ds, q.2)) := rfl
@[simp] theorem ixDic_e {ks : List (Key × D)} {y : D} : ixDic (.dic ks) y = (keyD y).bind fun k => (getK ks k).map .val := rfl
@[simp] theorem inDic_e {n : Bool} {ks : List (Key × D)} {x : D} : inDic n x (.dic ks) = (keyD x).map fun k => .val (.bl (if n then !(getK ks k).isSome else (getK ks k).isSome)) := rfl
end Bl
/-! The mirrors' loops in closed form. -/
namespace Bl
open PySem PySem.Spec PyProof.Rows L2 Evl
/-- a comprehension that changes nothing: G tells what each turn adds -/
theorem lcL_flt {vs : List Nat} {g : Gs} {t : Tv} {f : Ev} {ρ : En} (G : D → Option D) : ∀ (ds : List D) (acc : List D), acc.length + ds.length ≤ 1000000 →
    (∀ d ∈ ds, ∃ ρ1, g d ρ = some ρ1 ∧ mask vs ρ1 = ρ ∧ ((G d = none ∧ t ρ1 = some (false, ρ1)) ∨ ∃ y w, G d = some y ∧ t ρ1 = some (true, ρ1) ∧ f ρ1 = some (w, ρ1) ∧ rel ρ1 w = some (y, ρ1))) →
    lcL vs g t f ds acc ρ = some (acc ++ ds.filterMap G, ρ)
  | [], acc, _, _ => by simp [lcL]
  | d :: ds, acc, hl, h => by
    obtain ⟨ρ1, e1, e2, e3⟩ := h d (List.mem_cons_self ..)
    have hl' : acc.length + ds.length + 1 ≤ 1000000 := by simpa [Nat.add_assoc] using hl
    rcases e3 with ⟨q1, q2⟩ | ⟨y, w, q1, q2, q3, q4⟩
    · have ih := lcL_flt G ds acc (by omega) fun z hz => h z (List.mem_cons_of_mem _ hz)
      simp [lcL, e1, q2, e2, ih, q1]
    · have ih := lcL_flt G ds (acc ++ [y]) (by simp; omega) fun z hz => h z (List.mem_cons_of_mem _ hz)
      have hz : acc.length < 1000000 := by omega
      simp [lcL, e1, q2, q3, q4, hz, e2, ih, q1]
theorem lcL_map {vs : List Nat} {g : Gs} {f : Ev} {ρ : En} (G : D → D) (ds : List D) (hl : ds.length ≤ 1000000)
    (h : ∀ d ∈ ds, ∃ ρ1 w, g d ρ = some ρ1 ∧ mask vs ρ1 = ρ ∧ f ρ1 = some (w, ρ1) ∧ rel ρ1 w = some (G d, ρ1)) : lcL vs g sYes f ds [] ρ = some (ds.map G, ρ) := by
  have := lcL_flt (vs := vs) (g := g) (t := sYes) (f := f) (ρ := ρ) (fun d => some (G d)) ds [] (by simpa using hl) fun d hd => by
    obtain ⟨ρ1, w, e1, e2, e3, e4⟩ := h d hd
    exact ⟨ρ1, e1, e2, .inr ⟨_, w, rfl, rfl, e3, e4⟩⟩
  simpa using this
/-- a for loop whose turns all go on: I tells the slots of a state -/
theorem forL_fold {σ : Type} {g : Gs} {f : Sv} (I : σ → En) (st : σ → D → Option σ) : ∀ (ds : List D) (s : σ), (∀ s d s', d ∈ ds → st s d = some s' → ∃ ρ1, g d (I s) = some ρ1 ∧ f ρ1 = some (.nx (I s'))) →
    ∀ s', ds.foldlM st s = some s' → forL g f ds (I s) = some (.nx (I s'))
  | [], s, _, s', e => by cases e; rfl
  | d :: ds, s, h, s', e => by
    rw [List.foldlM_cons] at e
    obtain ⟨s1, e1, e⟩ := Option.bind_eq_some_iff.mp e
    obtain ⟨ρ1, q1, q2⟩ := h s d s1 (List.mem_cons_self ..) e1
    have ih := forL_fold I st ds s1 (fun s d s' hd => h s d s' (List.mem_cons_of_mem _ hd)) s' e
    simp [forL, q1, q2, ih]
/-- .. where each turn's slots hang on what was drawn: some run, with a property kept -/
theorem forL_some {g : Gs} {f : Sv} (P : Nat → En → Prop) : ∀ (ds : List D) (i : Nat) (ρ : En), P i ρ → (∀ j d ρ, ds[j]? = some d → P (i + j) ρ → ∃ ρ1 ρ2, g d ρ = some ρ1 ∧ f ρ1 = some (.nx ρ2) ∧ P (i + j + 1) ρ2) →
    ∃ ρ', forL g f ds ρ = some (.nx ρ') ∧ P (i + ds.length) ρ'
  | [], i, ρ, p, _ => ⟨ρ, rfl, p⟩
  | d :: ds, i, ρ, p, h => by
    obtain ⟨ρ1, ρ2, q1, q2, q3⟩ := h 0 d ρ rfl p
    obtain ⟨ρ', e, p'⟩ := forL_some P ds (i + 1) ρ2 q3 fun j d ρ hd hp => by
      have := h (j + 1) d ρ (by simpa using hd) (by rw [show i + (j + 1) = i + 1 + j by omega]; exact hp)
      rw [show i + (j + 1) = i + 1 + j by omega] at this
      exact this
    refine ⟨ρ', by simp [forL, q1, q2, e], ?_⟩
    rw [List.length_cons, show i + (ds.length + 1) = i + 1 + ds.length by omega]
    exact p'
/-- a comprehension with draws: some run, with a property kept of what is there so far and the slots -/
theorem lcL_some {vs : List Nat} {g : Gs} {t : Tv} {f : Ev} (P : Nat → List D → En → Prop) : ∀ (ds : List D) (i : Nat) (acc : List D) (ρ : En), acc.length + ds.length ≤ 1000000 → P i acc ρ →
    (∀ j d acc ρ, ds[j]? = some d → P (i + j) acc ρ → ∃ ρ1 b ρ2, g d ρ = some ρ1 ∧ t ρ1 = some (b, ρ2) ∧ ((b = false ∧ P (i + j + 1) acc (mask vs ρ2)) ∨ (b = true ∧ ∃ w ρ3 y ρ4, f ρ2 = some (w, ρ3) ∧ rel ρ3 w = some (y, ρ4) ∧ P (i + j + 1) (acc ++ [y]) (mask vs ρ4)))) →
    ∃ acc' ρ', lcL vs g t f ds acc ρ = some (acc', ρ') ∧ P (i + ds.length) acc' ρ'
  | [], i, acc, ρ, _, p, _ => ⟨acc, ρ, rfl, p⟩
  | d :: ds, i, acc, ρ, hl, p, h => by
    have hl' : acc.length + ds.length + 1 ≤ 1000000 := by simpa [Nat.add_assoc] using hl
    obtain ⟨ρ1, b, ρ2, q1, q2, q3⟩ := h 0 d acc ρ rfl p
    have nxt : ∀ j d acc ρ, ds[j]? = some d → P (i + 1 + j) acc ρ → _ := fun j d acc ρ hd hp => by
      have := h (j + 1) d acc ρ (by simpa using hd) (by rw [show i + (j + 1) = i + 1 + j by omega]; exact hp)
      rw [show i + (j + 1) = i + 1 + j by omega] at this
      exact this
    have fin : i + (d :: ds).length = i + 1 + ds.length := by rw [List.length_cons]; omega
    rcases q3 with ⟨rfl, q4⟩ | ⟨rfl, w, ρ3, y, ρ4, q4, q5, q6⟩
    · obtain ⟨a', ρ', e, p'⟩ := lcL_some P ds (i + 1) acc _ (by omega) q4 nxt
      exact ⟨a', ρ', by simp [lcL, q1, q2, e], fin ▸ p'⟩
    · obtain ⟨a', ρ', e, p'⟩ := lcL_some P ds (i + 1) (acc ++ [y]) _ (by simp; omega) q6 nxt
      have hz : acc.length < 1000000 := by omega
      exact ⟨a', ρ', by simp [lcL, q1, q2, q4, q5, hz, e], fin ▸ p'⟩
end Bl
/-! Equal data; loops in closed form. -/
namespace Bl
open PySem PySem.Spec PyProof.Rows L2 Evl
/-- a text that can be laid -/
abbrev gs (x : Str) : Prop := PyData.strOk x = true
theorem toPys_map {α : Type} {f : α → D} {g : α → PyData} : ∀ (l : List α), (∀ a ∈ l, toPy (f a) = some (g a)) → toPys (l.map f) = some (l.map g)
  | [], _ => by simp [toPys]
  | a :: l, h => by
    have h1 := h a (List.mem_cons_self ..)
    have h2 := toPys_map l fun b hb => h b (List.mem_cons_of_mem _ hb)
    simp [toPys, h1, h2]
theorem canAll_map {α : Type} {g : α → PyData} : ∀ (l : List α), (∀ a ∈ l, (g a).canLay0 = true) → PyData.canLayAll0 (l.map g) = true
  | [], _ => by simp [PyData.canLayAll0]
  | a :: l, h => by
    have h1 := h a (List.mem_cons_self ..)
    have h2 := canAll_map l fun b hb => h b (List.mem_cons_of_mem _ hb)
    simp [PyData.canLayAll0, h1, h2]
theorem depthAll_map {α : Type} {g : α → PyData} {n : Nat} : ∀ (l : List α), (∀ a ∈ l, (g a).depth ≤ n) → PyData.depthAll (l.map g) ≤ n
  | [], _ => by simp [PyData.depthAll]
  | a :: l, h => by
    have h1 := h a (List.mem_cons_self ..)
    have h2 := depthAll_map l fun b hb => h b (List.mem_cons_of_mem _ hb)
    simp [PyData.depthAll]
    omega
/-- data that can be laid, of a depth -/
structure Py (n : Nat) (d : D) (p : PyData) : Prop where
  to : toPy d = some p
  can : p.canLay0 = true
  dep : p.depth ≤ n
theorem Py.mono {n m : Nat} {d : D} {p : PyData} (h : Py n d p) (q : n ≤ m) : Py m d p := ⟨h.to, h.can, Nat.le_trans h.dep q⟩
theorem py_non : Py 0 .non .none := ⟨rfl, rfl, by simp [PyData.depth]⟩
theorem py_bl (b : Bool) : Py 0 (.bl b) (.bool b) := ⟨rfl, rfl, by simp [PyData.depth]⟩
theorem py_int (i : Int) : Py 0 (.int i) (.int i) := ⟨rfl, rfl, by simp [PyData.depth]⟩
theorem py_str {x : Str} (h : gs x) : Py 0 (.str x) (.str x) := ⟨rfl, by simpa [PyData.canLay0] using h, by simp [PyData.depth]⟩
theorem py_lst {α : Type} {f : α → D} {g : α → PyData} {n : Nat} (l : List α) (h : ∀ a ∈ l, Py n (f a) (g a)) : Py (n + 1) (.lst (l.map f)) (.list (l.map g)) := by
  refine ⟨by simp [toPy, toPys_map l fun a ha => (h a ha).to], ?_, ?_⟩
  · simp [PyData.canLay0, canAll_map l fun a ha => (h a ha).can]
  · have := depthAll_map l fun a ha => (h a ha).dep
    simp [PyData.depth]; omega
theorem py_tup {α : Type} {f : α → D} {g : α → PyData} {n : Nat} (l : List α) (h : ∀ a ∈ l, Py n (f a) (g a)) : Py (n + 1) (.tup (l.map f)) (.tuple (l.map g)) := by
  refine ⟨by simp [toPy, toPys_map l fun a ha => (h a ha).to], ?_, ?_⟩
  · simp [PyData.canLay0, canAll_map l fun a ha => (h a ha).can]
  · have := depthAll_map l fun a ha => (h a ha).dep
    simp [PyData.depth]; omega
theorem Py.shaped {n : Nat} {d : D} {p : PyData} (h : Py n d p) (hn : n ≤ 64) : SeqAt.shaped p = true := by
  unfold SeqAt.shaped
  rw [h.can, decide_eq_true (Nat.le_trans h.dep hn)]; rfl
theorem eqO_py {n m : Nat} {a b : D} {p q : PyData} (ha : Py n a p) (hb : Py m b q) (hn : n ≤ 64) (hm : m ≤ 64) : eqO a b = some (.val (.bl (p.eqv q))) := by
  simp [eqO, eqD, ha.to, hb.to, ha.shaped hn, hb.shaped hm]
theorem neO_py {n m : Nat} {a b : D} {p q : PyData} (ha : Py n a p) (hb : Py m b q) (hn : n ≤ 64) (hm : m ≤ 64) : neO a b = some (.val (.bl (!p.eqv q))) := by
  simp [neO, eqD, ha.to, hb.to, ha.shaped hn, hb.shaped hm]
theorem Py.refl {n : Nat} {a : D} {p : PyData} (ha : Py n a p) : p.eqv p = true := SeqAt.eqv_refl p ha.can
theorem eqO_self {n : Nat} {a : D} {p : PyData} (ha : Py n a p) (hn : n ≤ 64) : eqO a a = some (.val (.bl true)) := by rw [eqO_py ha ha hn hn, ha.refl]
theorem neO_self {n : Nat} {a : D} {p : PyData} (ha : Py n a p) (hn : n ≤ 64) : neO a a = some (.val (.bl false)) := by rw [neO_py ha ha hn hn, ha.refl]; rfl
@[simp] theorem eqO_int (a b : Int) : eqO (.int a) (.int b) = some (.val (.bl (decide (a = b)))) := by
  rw [eqO_py (py_int a) (py_int b) (by decide) (by decide)]
  have e : (PyData.int a).eqv (PyData.int b) = decide (a = b) := by
    show (a == b) = decide (a = b)
    by_cases z : a = b <;> simp [z]
  rw [e]
theorem eqO_str {a b : Str} (ha : gs a) (hb : gs b) : eqO (.str a) (.str b) = some (.val (.bl (decide (a = b)))) := by
  rw [eqO_py (py_str ha) (py_str hb) (by decide) (by decide)]
  have e : (PyData.str a).eqv (PyData.str b) = decide (a = b) := by
    show (a == b) = decide (a = b)
    by_cases z : a = b <;> simp [z]
  rw [e]
@[simp] theorem eqO_bl (a b : Bool) : eqO (.bl a) (.bl b) = some (.val (.bl (decide (a = b)))) := by
  rw [eqO_py (py_bl a) (py_bl b) (by decide) (by decide)]
  cases a <;> cases b <;> rfl
@[simp] theorem neO_bl (a b : Bool) : neO (.bl a) (.bl b) = some (.val (.bl (!decide (a = b)))) := by
  rw [neO_py (py_bl a) (py_bl b) (by decide) (by decide)]
  cases a <;> cases b <;> rfl
theorem eqO_nil {α : Type} {f : α → D} {g : α → PyData} {n : Nat} (l : List α) (h : ∀ a ∈ l, Py n (f a) (g a)) (hn : n < 64) : eqO (.lst (l.map f)) (.lst []) = some (.val (.bl l.isEmpty)) := by
  have e : D.lst [] = D.lst (([] : List α).map f) := rfl
  rw [e, eqO_py (py_lst l h) (py_lst (f := f) (g := g) (n := n) [] (fun a ha => by cases ha)) (by omega) (by omega)]
  cases l with
  | nil => rfl
  | cons a l => rfl
/-- a for loop whose turns all go on: I tells the slots of a state and of what is left over -/
theorem forL_st {σ ε α : Type} {g : Gs} {f : Sv} (I : σ → ε → En) (q : α → D) (st : σ → α → σ) (inv : σ → Prop) : ∀ (l : List α), (∀ s e a, a ∈ l → inv s → inv (st s a) ∧ ∃ e' ρ1, g (q a) (I s e) = some ρ1 ∧ f ρ1 = some (.nx (I (st s a) e'))) →
    ∀ s e, inv s → inv (l.foldl st s) ∧ ∃ e', forL g f (l.map q) (I s e) = some (.nx (I (l.foldl st s) e'))
  | [], _, s, e, i => ⟨i, e, rfl⟩
  | a :: l, h, s, e, i => by
    obtain ⟨i', e', ρ1, h1, h2⟩ := h s e a (List.mem_cons_self ..) i
    obtain ⟨i2, e2, h3⟩ := forL_st I q st inv l (fun s e b hb => h s e b (List.mem_cons_of_mem _ hb)) (st s a) e' i'
    exact ⟨i2, e2, by simp [forL, h1, h2, h3]⟩
/-- a comprehension that changes nothing, over typed things -/
theorem lcL_fltT {α β : Type} {vs : List Nat} {g : Gs} {t : Tv} {f : Ev} {ρ : En} (q : α → D) (G : α → Option β) (r : β → D) (l : List α) (hl : l.length ≤ 1000000)
    (h : ∀ a ∈ l, ∃ ρ1, g (q a) ρ = some ρ1 ∧ mask vs ρ1 = ρ ∧ ((G a = none ∧ t ρ1 = some (false, ρ1)) ∨ ∃ y w, G a = some y ∧ t ρ1 = some (true, ρ1) ∧ f ρ1 = some (w, ρ1) ∧ rel ρ1 w = some (r y, ρ1))) :
    lcL vs g t f (l.map q) [] ρ = some ((l.filterMap G).map r, ρ) := by
  suffices ∀ (l : List α) (acc : List D), acc.length + l.length ≤ 1000000 → (∀ a ∈ l, ∃ ρ1, g (q a) ρ = some ρ1 ∧ mask vs ρ1 = ρ ∧ ((G a = none ∧ t ρ1 = some (false, ρ1)) ∨ ∃ y w, G a = some y ∧ t ρ1 = some (true, ρ1) ∧ f ρ1 = some (w, ρ1) ∧ rel ρ1 w = some (r y, ρ1))) →
      lcL vs g t f (l.map q) acc ρ = some (acc ++ (l.filterMap G).map r, ρ) by simpa using this l [] (by simpa using hl) h
  intro l
  induction l with
  | nil => intro acc _ _; simp [lcL]
  | cons d ds ih =>
    intro acc hl h
    obtain ⟨ρ1, e1, e2, e3⟩ := h d (List.mem_cons_self ..)
    have hl' : acc.length + ds.length + 1 ≤ 1000000 := by simpa [Nat.add_assoc] using hl
    rcases e3 with ⟨q1, q2⟩ | ⟨y, w, q1, q2, q3, q4⟩
    · have ih := ih acc (by omega) fun z hz => h z (List.mem_cons_of_mem _ hz)
      simp [lcL, e1, q2, e2, ih, q1]
    · have ih := ih (acc ++ [r y]) (by simp; omega) fun z hz => h z (List.mem_cons_of_mem _ hz)
      have hz : acc.length < 1000000 := by omega
      simp [lcL, e1, q2, q3, q4, hz, e2, ih, q1]
theorem lcL_mapT {α β : Type} {vs : List Nat} {g : Gs} {f : Ev} {ρ : En} (q : α → D) (G : α → β) (r : β → D) (l : List α) (hl : l.length ≤ 1000000)
    (h : ∀ a ∈ l, ∃ ρ1 w, g (q a) ρ = some ρ1 ∧ mask vs ρ1 = ρ ∧ f ρ1 = some (w, ρ1) ∧ rel ρ1 w = some (r (G a), ρ1)) : lcL vs g sYes f (l.map q) [] ρ = some ((l.map G).map r, ρ) := by
  have := lcL_fltT (vs := vs) (g := g) (t := sYes) (f := f) (ρ := ρ) q (fun a => some (G a)) r l hl fun a ha => by
    obtain ⟨ρ1, w, e1, e2, e3, e4⟩ := h a ha
    exact ⟨ρ1, e1, e2, .inr ⟨_, w, rfl, rfl, e3, e4⟩⟩
  simpa using this
theorem seq_nx {f g : Sv} {ρ ρ' : En} (h : f ρ = some (.nx ρ')) : sSeq f g ρ = g ρ' := by simp [h]
theorem seq_rt {f g : Sv} {ρ ρ' : En} {w : Opd} (h : f ρ = some (.rt w ρ')) : sSeq f g ρ = some (.rt w ρ') := by simp [h]
theorem runI_of {n : Nat} {f : Sv} {d d' : D} {ds : List D} {w : Opd} {ρ : En} (h : f (startI n d ds) = some (.rt w (some (.o d') :: ρ))) : runI n f d ds = some (w, d') := by
  unfold runI
  rw [h]
  rfl
theorem runP_of {n : Nat} {f : Sv} {ds : List D} {w : Opd} {ρ : En} (h : f (startE n ds) = some (.rt w ρ)) : runP n f ds = some w := by
  unfold runP
  rw [h]
end Bl
/-! The math of k01: the box and its draws. -/
namespace Bl
open PySem PySem.Spec PyProof.Rows L2 Evl
theorem take_big {a y c n : Int} (ha : 0 < a) (hn : 0 < n) (hn2 : n < 1073741824) : m__law_take (.lst [.int a, .int y, .int c]) [.int n] = some (.val (.int (a % n)), .lst [.int (a / n), .int y, .int c]) := by
  simp [m__law_take, runI, startI, b__law_take, sSeq, sIfS, sB, sOp, sUn, sVar, sC, rd, rel, relP, cur, iCmp, iOp, ixSeq, sSet, stO, sSetIx, ownL, modI, fdivI, intD, sRet, atI, ixN, Ent.d, ha, hn, hn2, List.replicate]
theorem mulI_l {i j : Int} (h : 0 ≤ i ∧ i < 18446744073709551616) : mulI i j = some (i * j) := by
  unfold mulI
  rw [if_pos]
  left
  constructor <;> omega
theorem mulI_r {i j : Int} (h : 0 ≤ j ∧ j < 18446744073709551616) : mulI i j = some (i * j) := by
  unfold mulI
  rw [if_pos]
  right
  constructor <;> omega
def onceF (y c : Int) : Int := (y + 48271 * c) * (39373 + c) % 2147483647
def twiceF (y c : Int) : Int := (onceF y c + c + y / 1000003) * (onceF y c % 40009 + 7) % 2147483629
def drawF (y c n : Int) : Int := (twiceF y c * 48271 + onceF y c) % 2147483587 / 64 % n
theorem take_small {y c n : Int} (hc : 0 ≤ c) (hc2 : c < 1099511627776) (hn : 0 < n) : m__law_take (.lst [.int 0, .int y, .int c]) [.int n] = some (.val (.int (drawF y (c + 1) n)), .lst [.int 0, .int y, .int (c + 1)]) := by
  have m1 : mulI 48271 (c + 1) = some (48271 * (c + 1)) := mulI_l (by omega)
  have m2 : mulI (y + 48271 * (c + 1)) (39373 + (c + 1)) = some ((y + 48271 * (c + 1)) * (39373 + (c + 1))) := mulI_r (by omega)
  have o1 : 0 ≤ onceF y (c + 1) % 40009 := Int.emod_nonneg _ (by decide)
  have o2 : onceF y (c + 1) % 40009 < 40009 := Int.emod_lt_of_pos _ (by decide)
  have m3 : mulI (onceF y (c + 1) + (c + 1) + y / 1000003) (onceF y (c + 1) % 40009 + 7) = some ((onceF y (c + 1) + (c + 1) + y / 1000003) * (onceF y (c + 1) % 40009 + 7)) := mulI_r (by omega)
  have m4 : mulI (twiceF y (c + 1)) 48271 = some (twiceF y (c + 1) * 48271) := mulI_r (by decide)
  unfold twiceF at m4
  unfold onceF at m3 m4
  simp [m__law_take, runI, startI, b__law_take, sSeq, sIfS, sB, sOp, sUn, sVar, sC, rd, rel, relP, cur, iCmp, iOp, ixSeq, sSet, stO, sSetIx, ownL, modI, fdivI, intD, sRet, atI, ixN, Ent.d, hn, List.replicate, sNext, addU, mulU, m1, m2, m3, m4, drawF, onceF, twiceF]
/-- a box: what is left of the number, its seed, how often it was turned (at most N times) -/
def Box (N : Nat) (b : D) : Prop := ∃ a y c : Int, b = .lst [.int a, .int y, .int c] ∧ 0 ≤ a ∧ 0 ≤ c ∧ c ≤ N
theorem take_ok {N : Nat} {b : D} {n : Int} (h : Box N b) (hN : N < 1000000000) (hn : 0 < n) (hn2 : n < 1073741824) : ∃ r b', m__law_take b [.int n] = some (.val (.int r), b') ∧ 0 ≤ r ∧ r < n ∧ Box (N + 1) b' := by
  obtain ⟨a, y, c, rfl, ha, hc, hc2⟩ := h
  by_cases h0 : 0 < a
  · refine ⟨_, _, take_big h0 hn hn2, Int.emod_nonneg _ (by omega), Int.emod_lt_of_pos _ hn, _, _, _, rfl, Int.ediv_nonneg (by omega) (by omega), hc, by omega⟩
  · have e : a = 0 := by omega
    subst e
    exact ⟨_, _, take_small hc (by omega) hn, Int.emod_nonneg _ (by omega), Int.emod_lt_of_pos _ hn, _, _, _, rfl, Int.le_refl _, by omega, by omega⟩
end Bl
/-! one of some, a size. -/
namespace Bl
open PySem PySem.Spec PyProof.Rows L2 Evl
theorem ix_ok {ds : List D} {r : Int} (h1 : 0 ≤ r) (h2 : r < ds.length) : ∃ d, d ∈ ds ∧ atI ds r = some d := by
  have hr : r.toNat < ds.length := by omega
  refine ⟨ds[r.toNat], List.getElem_mem hr, ?_⟩
  simp [atI, ixN, h1, h2, hr]
theorem of_ok {N : Nat} {b : D} {ds : List D} (h : Box N b) (hN : N < 1000000000) (h0 : ds ≠ []) (hl : ds.length < 1000000) : ∃ d b', m__law_of b [.lst ds] = some (.val d, b') ∧ d ∈ ds ∧ Box (N + 1) b' := by
  have hp : 0 < ds.length := List.length_pos_iff.mpr h0
  obtain ⟨r, b', e, h1, h2, hb⟩ := take_ok h hN (n := ds.length) (by omega) (by omega)
  obtain ⟨d, hd, ed⟩ := ix_ok h1 h2
  refine ⟨d, b', ?_, hd, hb⟩
  simp [m__law_of, runI, startI, b__law_of, sOp, sUn, sVar, sCallI, sCons, sNil, lenD, rd, rel, relP, cur, Ent.d, List.replicate, e, ixSeq, ed, sRet]
theorem sized_ok {N : Nat} {b : D} {n : Int} (h : Box N b) (hN : N < 999999990) (hn : 0 < n) (hn2 : n < 1000) : ∃ x y b', m__law_sized b [.int n] = some (.val (.tup [.int x, .int y]), b') ∧ okF (x, y) ∧ Box (N + 2) b' := by
  obtain ⟨r, b1, e1, h1, h2, hb1⟩ := take_ok h (by omega) hn (by omega)
  obtain ⟨d, b2, e2, hd, hb2⟩ := of_ok (ds := [.int 1, .int 1, .int 1, .int 2, .int 3]) hb1 (by omega) (by simp) (by decide)
  obtain ⟨y, rfl, hy⟩ : ∃ y : Int, d = .int y ∧ (y = 1 ∨ y = 2 ∨ y = 3) := by
    simp at hd
    rcases hd with rfl | rfl | rfl | rfl | rfl <;> exact ⟨_, rfl, by decide⟩
  have hy1 : 0 < y := by omega
  have hy3 : y < 1073741824 := by omega
  by_cases hm : (1 + r) % y = 0
  · refine ⟨(1 + r) / y, 1, b2, ?_, ?_, hb2⟩
    · simp [m__law_sized, b__law_sized, e1, e2, hm, hy1, hy3, modI, fdivI, List.replicate, Ent.d]
    · refine ⟨?_, ?_, .inl rfl⟩
      · rcases hy with rfl | rfl | rfl <;> dsimp only <;> omega
      · rcases hy with rfl | rfl | rfl <;> dsimp only <;> omega
  · refine ⟨1 + r, y, b2, ?_, ?_, hb2⟩
    · simp [m__law_sized, b__law_sized, e1, e2, hm, hy1, hy3, modI, fdivI, List.replicate, Ent.d]
    · refine ⟨by dsimp only; omega, by dsimp only; omega, ?_⟩
      dsimp only
      rcases hy with rfl | rfl | rfl
      · omega
      · exact .inr (.inl ⟨rfl, hm⟩)
      · exact .inr (.inr ⟨rfl, hm⟩)
end Bl
/-! the steps of a plan. -/
namespace Bl
open PySem PySem.Spec PyProof.Rows L2 Evl
abbrev Stp := Str × Int × Int
def stepD (s : Stp) : D := .tup [.str s.1, .tup [.int s.2.1, .int s.2.2]]
def pool1 : List Str := ["a", "ab", "b", "c", "d", "e", "f", "k", "z", "zz"]
theorem erase_perm {α : Type} : ∀ (l : List α) (k : Nat) (h : k < l.length), l.Perm (l[k] :: l.eraseIdx k)
  | [], _, h => absurd h (Nat.not_lt_zero _)
  | x :: l, 0, _ => List.Perm.refl _
  | x :: l, k + 1, h => ((erase_perm l k (Nat.lt_of_succ_lt_succ h)).cons x).trans (List.Perm.swap _ _ _)
/-- some name of the pool, and the rest -/
theorem pop_ix {α : Type} {l : List α} {r : Int} (h1 : 0 ≤ r) (h2 : r < l.length) : ∃ x, l[r.toNat]? = some x ∧ seqIndex? r l.length = some r.toNat ∧ l.Perm (x :: l.eraseIdx r.toNat) ∧ (l.eraseIdx r.toNat).length + 1 = l.length := by
  have hr : r.toNat < l.length := by omega
  refine ⟨l[r.toNat], by simp [hr], ?_, erase_perm l _ hr, ?_⟩
  · unfold seqIndex?
    have : ¬ r < 0 := by omega
    simp [this, h1, h2]
  · rw [List.length_eraseIdx_of_lt hr]; omega
def okStep (s : Stp) : Prop := okF s.2
def StP (N : Nat) (n : Int) (i : Nat) (ρ : En) : Prop := ∃ (b : D) (pool : List Str) (found : List Stp) (e : Option Ent), ρ = [some (.o b), some (.v (.int n)), some (.o (.lst (pool.map D.str))), some (.o (.lst (found.map stepD))), e] ∧
  Box (N + 3 * i) b ∧ pool.length + i = 10 ∧ found.length = i ∧ (found.map (·.1) ++ pool).Perm pool1 ∧ ∀ s ∈ found, okStep s
theorem steps_turn {N i : Nat} {n : Int} {ρ : En} {d : D} (hN : N < 900000000) (hn : 0 < n) (hn2 : n < 100) (hi : i < 10) (h : StP N n i ρ) : ∃ ρ2, (sExpr (sApp 3 (sTup (sCons (sPopAt 2 (sCallI 0 m__law_take (sCons (sUn lenD (sVar 2)) sNil))) (sCons (sCallI 0 m__law_sized (sCons (sOp addU (sVar 1) (sC (.int 2))) sNil)) sNil))))) (ρ.set 4 (some (.v d))) = some (.nx ρ2) ∧ StP N n (i + 1) ρ2 := by
  obtain ⟨b, pool, found, e, rfl, hb, hp, hf, hperm, hok⟩ := h
  obtain ⟨r, b1, e1, h1, h2, hb1⟩ := take_ok hb (by omega) (n := pool.length) (by omega) (by omega)
  obtain ⟨x, g1, g2, g3, g4⟩ := pop_ix h1 h2
  obtain ⟨u, v, b2, e2, k1, hb2⟩ := sized_ok hb1 (by omega) (n := n + 2) (by omega) (by omega)
  have hz1 : -1000000 ≤ r ∧ r ≤ 1000000 := by omega
  have hz2 : found.length < 1000000 := by omega
  refine ⟨[some (.o b2), some (.v (.int n)), some (.o (.lst ((pool.eraseIdx r.toNat).map D.str))), some (.o (.lst ((found ++ [(x, u, v)]).map stepD))), some (.v d)], ?_, b2, _, _, _, rfl, ?_, ?_, ?_, ?_, ?_⟩
  · simp [sExpr, sApp, sTup, sCons, sNil, sPopAt, sCallI, sUn, lenD, sVar, sOp, sC, addU, iOp, rd, rel, relP, cur, Ent.d, ownL, e1, e2, g1, g2, hz1, hz2, stepD, map_erase]
  · have : N + 3 * (i + 1) = N + 3 * i + 1 + 2 := by omega
    rw [this]; exact hb2
  · omega
  · simp [hf]
  · refine List.Perm.trans ?_ hperm
    have : (found ++ [(x, u, v)]).map (·.1) ++ pool.eraseIdx r.toNat = found.map (·.1) ++ (x :: pool.eraseIdx r.toNat) := by simp
    rw [this]
    exact List.Perm.append_left _ g3.symm
  · intro s hs
    rcases List.mem_append.mp hs with h | h
    · exact hok s h
    · simp at h; subst h; exact k1
theorem iota_get {n i : Nat} {d : D} {f : Nat → D} (h : ((List.range n).map f)[i]? = some d) : i < n := by
  rw [List.getElem?_map] at h
  cases e : (List.range n)[i]? with
  | none => rw [e] at h; cases h
  | some x => exact by simpa using (List.getElem?_eq_some_iff.mp e).1
end Bl
namespace Bl
open PySem PySem.Spec PyProof.Rows L2 Evl
theorem perm_map {α β : Type} {f : α → β} {g : β → α} (hg : ∀ a, g (f a) = a) {ys : List β} {l : List α} (h : ys.Perm (l.map f)) : ∃ l' : List α, l'.Perm l ∧ ys = l'.map f := by
  refine ⟨ys.map g, ?_, ?_⟩
  · have := h.map g
    rw [List.map_map] at this
    have e : g ∘ f = id := funext hg
    rw [e, List.map_id] at this
    exact this
  · rw [List.map_map]
    have : ∀ y ∈ ys, (f ∘ g) y = y := fun y hy => by
      obtain ⟨a, _, rfl⟩ := List.mem_map.mp (h.mem_iff.mp hy)
      show f (g (f a)) = f a
      rw [hg]
    have e : ys.map (f ∘ g) = ys.map id := List.map_congr_left this
    rw [e, List.map_id]
theorem sort_perm (l : List D) : (l.mergeSort leD).Perm l := List.mergeSort_perm l leD
def unstep : D → Stp
  | .tup [.str x, .tup [.int a, .int b]] => (x, a, b)
  | _ => ("", 0, 0)
theorem okSort_steps (l : List Stp) (hl : l.length ≤ 1000000) : okSort (l.map stepD) = true := by
  unfold okSort
  simp only [Bool.and_eq_true, List.all_eq_true, List.mem_map, Bool.or_eq_true, decide_eq_true_eq, List.length_map]
  refine ⟨⟨⟨?_, ?_⟩, .inl ?_⟩, hl⟩
  · rintro d ⟨s, _, rfl⟩
    exact ⟨rfl, by show (PyData.tuple [.str s.1, .tuple [.int s.2.1, .int s.2.2]]).depth ≤ 60; simp [PyData.depth, PyData.depthAll]⟩
  · rintro d ⟨s, _, rfl⟩ d' ⟨s', _, rfl⟩
    rfl
  · rintro d ⟨s, _, rfl⟩
    rfl
theorem steps_ok {N : Nat} {b : D} {n : Int} (h : Box N b) (hN : N < 900000000) (hn : 0 < n) (hn2 : n ≤ 9) : ∃ (st : List Stp) (b' : D), m__law_steps b [.int n] = some (.val (.tup (st.map stepD)), b') ∧ Box (N + 3 * n.toNat) b' ∧ st.length = n.toNat ∧ (st.map (·.1)).Nodup ∧ (∀ s ∈ st, s.1 ∈ pool1 ∧ okStep s) := by
  have hr1 : -1000000 ≤ n ∧ n ≤ 1000000 := by omega
  obtain ⟨ρ', e1, hP⟩ := forL_some (g := hName 4) (f := sExpr (sApp 3 (sTup (sCons (sPopAt 2 (sCallI 0 m__law_take (sCons (sUn lenD (sVar 2)) sNil))) (sCons (sCallI 0 m__law_sized (sCons (sOp addU (sVar 1) (sC (.int 2))) sNil)) sNil))))) (StP N n) (rngF 0 n.toNat) 0
    [some (.o b), some (.v (.int n)), some (.o (.lst (pool1.map D.str))), some (.o (.lst [])), none] ⟨b, pool1, [], none, rfl, h, rfl, rfl, List.Perm.refl _, fun s hs => by cases hs⟩ fun j d ρ hd hp => by
      have hj := iota_get hd
      rw [Nat.zero_add] at hp ⊢
      obtain ⟨ρ2, q1, q2⟩ := steps_turn (d := d) hN hn (by omega) (by omega) hp
      exact ⟨_, ρ2, rfl, q1, q2⟩
  obtain ⟨b', pool, found, e, rfl, hb, hp, hf, hperm, hok⟩ := hP
  have hlen : (rngF 0 n.toNat).length = n.toNat := by simp [rngF]
  rw [hlen, Nat.zero_add] at hb hp hf
  obtain ⟨st, p1, p2⟩ := perm_map (f := stepD) (g := unstep) (fun _ => rfl) (sort_perm (found.map stepD))
  have ok := okSort_steps found (by omega)
  have nd : (found.map (·.1) ++ pool).Nodup := hperm.nodup_iff.mpr (by decide +kernel)
  refine ⟨st, b', ?_, hb, p1.length_eq.trans hf, ((p1.map (·.1)).nodup_iff.mpr (List.nodup_append.mp nd).1), fun s hs => ⟨?_, hok s (p1.mem_iff.mp hs)⟩⟩
  · have e0 : b__law_steps [some (.o b), some (.v (.int n)), none, none, none] = some (.rt (.val (.tup (st.map stepD))) [some (.o b'), some (.v (.int n)), some (.o (.lst (pool.map D.str))), some (.o (.lst (found.map stepD))), e]) := by
      simp only [pool1, List.map_cons, List.map_nil] at e1
      simp [b__law_steps, sSeq, sPar, sLst, sCons, sC, sNil, rel, fixO, stO, sFor, cRng1, sVar, relP, hr1, e1, sRet, sUn, rd, cur, Ent.d, sortO, ok, p2, tupleD]
    simp [m__law_steps, runI, startI, List.replicate, e0]
  · exact hperm.mem_iff.mp (List.mem_append_left _ (List.mem_map.mpr ⟨s, p1.mem_iff.mp hs, rfl⟩))
end Bl
namespace Bl
open PySem PySem.Spec PyProof.Rows L2 Evl
def pairD (p : Str × Str) : D := .tup [.str p.1, .str p.2]
def ToP (N : Nat) (nm : List Str) (th : Int) (i : Nat) (ρ : En) : Prop := ∃ (b : D) (ps : List (Str × Str)) (e4 e5 : Option Ent), ρ = [some (.o b), some (.v (.lst (nm.map D.str))), some (.v (.int th)), some (.o (.lst (ps.map pairD))), e4, e5, none] ∧ Box (N + 10 * i) b ∧ ps.length ≤ 10 * i ∧ ∀ p ∈ ps, p.1 ∈ nm ∧ p.2 ∈ nm
theorem take12 {N : Nat} {b : D} {th : Int} (h : Box N b) (hN : N < 1000000000) : ∃ (z : Bool) (b' : D), (∃ r : Int, m__law_take b [.int 12] = some (.val (.int r), b') ∧ z = decide (r < th)) ∧ Box (N + 1) b' := by
  obtain ⟨r, b', e, _, _, hb⟩ := take_ok h hN (n := 12) (by decide) (by decide)
  exact ⟨_, b', ⟨r, e, rfl⟩, hb⟩
theorem cut_from {ds : List D} {k : Nat} : cutD ds (some ((k : Int) + 1)) none = ds.drop (k + 1) := by
  unfold cutD
  have h1 : HT.sIx ds.length 0 (some ((k : Int) + 1)) = min (k + 1) ds.length := by
    simp only [HT.sIx]
    split <;> omega
  have h2 : HT.sIx ds.length ds.length none = ds.length := rfl
  rw [h1, h2]
  by_cases h : k + 1 ≤ ds.length
  · rw [Nat.min_eq_left h]; exact List.take_of_length_le (by simp)
  · rw [Nat.min_eq_right (by omega), List.drop_length, List.drop_eq_nil_of_le (by omega), List.take_nil]
theorem drop_map {α β : Type} (f : α → β) (l : List α) (k : Nat) : (l.map f).drop k = (l.drop k).map f := by simp
/-- the inner row: pairs of mine with some of the later names -/
theorem touch_row {N : Nat} {b : D} {nm rest : List Str} {th : Int} {old : D} {k : Option Ent} {mine : Str} (h : Box N b) (hN : N < 900000000) (hl : rest.length ≤ 10) (hs : ∀ x ∈ rest, x ∈ nm) :
    ∃ (qs : List (Str × Str)) (b' : D), lcL [6] (hName 6) (sB (sOp ltU (sCallI 0 m__law_take (sCons (sC (.int 12)) sNil)) (sVar 2))) (sTup (sCons (sVar 5) (sCons (sVar 6) sNil))) (rest.map D.str) [] [some (.o b), some (.v (.lst (nm.map D.str))), some (.v (.int th)), some (.o old), k, some (.v (.str mine)), none] =
      some (qs.map pairD, [some (.o b'), some (.v (.lst (nm.map D.str))), some (.v (.int th)), some (.o old), k, some (.v (.str mine)), none]) ∧ Box (N + 10) b' ∧ qs.length ≤ 10 ∧ ∀ p ∈ qs, p.1 = mine ∧ p.2 ∈ nm := by
  obtain ⟨acc, ρ', e, qs, b', rfl, rfl, hb, hq, hp⟩ := lcL_some (vs := [6]) (g := hName 6) (t := sB (sOp ltU (sCallI 0 m__law_take (sCons (sC (.int 12)) sNil)) (sVar 2))) (f := sTup (sCons (sVar 5) (sCons (sVar 6) sNil)))
    (fun i acc ρ => ∃ (qs : List (Str × Str)) (b' : D), acc = qs.map pairD ∧ ρ = [some (.o b'), some (.v (.lst (nm.map D.str))), some (.v (.int th)), some (.o old), k, some (.v (.str mine)), none] ∧ Box (N + i) b' ∧ qs.length ≤ i ∧ ∀ p ∈ qs, p.1 = mine ∧ p.2 ∈ nm)
    (rest.map D.str) 0 [] [some (.o b), some (.v (.lst (nm.map D.str))), some (.v (.int th)), some (.o old), k, some (.v (.str mine)), none] (by simp; omega) ⟨[], b, rfl, rfl, h, Nat.le_refl _, fun p hp => by cases hp⟩ fun j d acc ρ hd hP => by
      obtain ⟨qs, b1, rfl, rfl, hb, hq, hp⟩ := hP
      rw [List.getElem?_map] at hd
      obtain ⟨x, hx, rfl⟩ := Option.map_eq_some_iff.mp hd
      have hj : j < rest.length := (List.getElem?_eq_some_iff.mp hx).1
      have hxm := hs x (List.mem_of_getElem? hx)
      obtain ⟨z, b2, ⟨r, e, rfl⟩, hb2⟩ := take12 (th := th) hb (by omega)
      refine ⟨_, decide (r < th), [some (.o b2), some (.v (.lst (nm.map D.str))), some (.v (.int th)), some (.o old), k, some (.v (.str mine)), some (.v (.str x))], rfl, ?_, ?_⟩
      · simp [sB, sOp, sCallI, cur, Ent.d, sCons, sC, sNil, rel, e, sVar, rd, ltU, iCmp]
      · by_cases hz : r < th
        · refine .inr ⟨decide_eq_true hz, _, _, pairD (mine, x), _, rfl, rfl, qs ++ [(mine, x)], b2, by simp, rfl, hb2, by simp; omega, fun p hp' => ?_⟩
          rcases List.mem_append.mp hp' with h | h
          · exact hp p h
          · simp at h; subst h; exact ⟨rfl, hxm⟩
        · exact .inl ⟨decide_eq_false hz, qs, b2, rfl, rfl, hb2, by omega, hp⟩
  rw [List.length_map, Nat.zero_add] at hb hq
  obtain ⟨a, y, c, rfl, h1, h2, h3⟩ := hb
  exact ⟨qs, _, e, ⟨a, y, c, rfl, h1, h2, by omega⟩, by omega, hp⟩
end Bl
namespace Bl
open PySem PySem.Spec PyProof.Rows L2 Evl
theorem touch_ok {N : Nat} {b : D} {nm : List Str} {th : Int} (h : Box N b) (hN : N < 800000000) (hl : nm.length ≤ 10) : ∃ (ps : List (Str × Str)) (b' : D), m__law_touching b [.lst (nm.map D.str), .int th] = some (.val (.tup (ps.map pairD)), b') ∧ Box (N + 100) b' ∧ ps.length ≤ 100 ∧ ∀ p ∈ ps, p.1 ∈ nm ∧ p.2 ∈ nm := by
  obtain ⟨ρ', e1, b', ps, e4, e5, rfl, hb, hp, hm⟩ := forL_some (g := hTup 2 (hCons (hName 4) (hCons (hName 5) hNil)))
    (f := sSet 3 (sOp addU (sVar 3) (sLc (cRel (sSlice (sVar 1) (sPart (sOp addU (sVar 4) (sC (.int 1)))) sNoPart)) [] [6] (hName 6) (sB (sOp ltU (sCallI 0 m__law_take (sCons (sC (.int 12)) sNil)) (sVar 2))) (sTup (sCons (sVar 5) (sCons (sVar 6) sNil))))))
    (ToP N nm th) (enumF 0 (nm.map D.str)) 0 [some (.o b), some (.v (.lst (nm.map D.str))), some (.v (.int th)), some (.o (.lst [])), none, none, none] ⟨b, [], none, none, rfl, h, Nat.le_refl _, fun p hp => by cases hp⟩ fun j d ρ hd hP => by
      rw [Nat.zero_add] at hP ⊢
      obtain ⟨b1, ps, e4, e5, rfl, hb, hp, hm⟩ := hP
      obtain ⟨x, hx, rfl⟩ := enum_get hd
      rw [List.getElem?_map] at hx
      obtain ⟨y, hy, rfl⟩ := Option.map_eq_some_iff.mp hx
      have hj : j < nm.length := (List.getElem?_eq_some_iff.mp hy).1
      have hym := List.mem_of_getElem? hy
      obtain ⟨qs, b2, q1, q2, q3, q4⟩ := touch_row (nm := nm) (rest := nm.drop (j + 1)) (th := th) (old := .lst (ps.map pairD)) (k := some (.v (.int (j : Int)))) (mine := y) hb (by omega) (by simp; omega) fun x hx => List.mem_of_mem_drop hx
      have hz : ps.length + qs.length ≤ 1000000 := by omega
      have cf := cut_from (ds := nm.map D.str) (k := j)
      rw [← drop_map] at q1
      refine ⟨_, [some (.o b2), some (.v (.lst (nm.map D.str))), some (.v (.int th)), some (.o (.lst ((ps ++ qs).map pairD))), some (.v (.int j)), some (.v (.str y)), none], rfl, ?_, b2, ps ++ qs, _, _, rfl, ?_, ?_, ?_⟩
      · simp [sSet, sOp, sVar, sLc, cRel, sSlice, sPart, sNoPart, sC, rd, cur, Ent.d, addU, iOp, cutO, cf, rel, seqOf, mask, q1, unmask, catL, hz, stO]
      · have : N + 10 * (j + 1) = N + 10 * j + 10 := by omega
        rw [this]; exact q2
      · simp; omega
      · intro p hp'
        rcases List.mem_append.mp hp' with h | h
        · exact hm p h
        · exact ⟨(q4 p h).1 ▸ hym, (q4 p h).2⟩
  rw [enum_length, List.length_map, Nat.zero_add] at hb hp
  obtain ⟨a, y, c, rfl, h1, h2, h3⟩ := hb
  refine ⟨ps, _, ?_, ⟨a, y, c, rfl, h1, h2, by omega⟩, by omega, hm⟩
  simp [m__law_touching, runI, startI, List.replicate, b__law_touching, sSeq, sSet, sLst, sNil, stO, sFor, cEnum, sCons, sVar, rel, relP, e1, sRet, sUn, rd, cur, Ent.d, tupleD]
end Bl
namespace Bl
open PySem PySem.Spec PyProof.Rows L2 Evl
theorem Box.mono {N M : Nat} {b : D} (h : Box N b) (q : N ≤ M) : Box M b := by
  obtain ⟨a, y, c, rfl, h1, h2, h3⟩ := h
  exact ⟨a, y, c, rfl, h1, h2, by omega⟩
theorem strsD_map : ∀ l : List Str, strsD (l.map D.str) = some l
  | [] => rfl
  | x :: l => by simp [strsD, strsD_map l]
theorem mem_sortS {l : List Str} {x : Str} : x ∈ sortS l ↔ x ∈ l := (List.mergeSort_perm l leS).mem_iff
theorem nodup_sortS {l : List Str} (h : l.Nodup) : (sortS l).Nodup := (List.mergeSort_perm l leS).nodup_iff.mpr h
/-- the last ones -/
theorem cut_last {ds : List D} {k : Nat} : cutD ds (some (-((k : Int) + 1))) none = ds.drop (ds.length - (k + 1)) := by
  unfold cutD
  have h1 : HT.sIx ds.length 0 (some (-((k : Int) + 1))) = ds.length - (k + 1) := by
    simp only [HT.sIx]
    split <;> omega
  have h2 : HT.sIx ds.length ds.length none = ds.length := rfl
  rw [h1, h2]
  exact List.take_of_length_le (by simp)
theorem last_ix {ds : List D} {d : D} : atI (ds ++ [d]) (-1) = some d := by
  have e : (-1 + ((ds.length : Int) + 1)).toNat = ds.length := by omega
  have h : -((ds.length : Int) + 1) ≤ -1 := by omega
  simp [atI, ixN, e, h]
theorem above_row {N : Nat} {b : D} {lb : List Str} {sh : Int} {ds : List D} (h : Box N b) (hN : N < 800000000) (h0 : lb ≠ []) (hl : lb.length ≤ 10) (hd : ds.length ≤ 2) :
    ∃ (l : List Str) (b' : D), lcL [4] (hName 4) sYes (sCallI 0 m__law_of (sCons (sSlice (sVar 1) (sPart (sUn negD (sC (.int 3)))) sNoPart) sNil)) ds [] [some (.o b), some (.v (.lst (lb.map D.str))), some (.v (.int sh)), none, none] =
      some (l.map D.str, [some (.o b'), some (.v (.lst (lb.map D.str))), some (.v (.int sh)), none, none]) ∧ Box (N + 2) b' ∧ l.length = ds.length ∧ ∀ x ∈ l, x ∈ lb := by
  obtain ⟨acc, ρ', e, l, b', rfl, rfl, hb, hq, hp⟩ := lcL_some (vs := [4]) (g := hName 4) (t := sYes) (f := sCallI 0 m__law_of (sCons (sSlice (sVar 1) (sPart (sUn negD (sC (.int 3)))) sNoPart) sNil))
    (fun i acc ρ => ∃ (l : List Str) (b' : D), acc = l.map D.str ∧ ρ = [some (.o b'), some (.v (.lst (lb.map D.str))), some (.v (.int sh)), none, none] ∧ Box (N + i) b' ∧ l.length = i ∧ ∀ x ∈ l, x ∈ lb)
    ds 0 [] [some (.o b), some (.v (.lst (lb.map D.str))), some (.v (.int sh)), none, none] (by simp; omega) ⟨[], b, rfl, rfl, h, rfl, fun p hp => by cases hp⟩ fun j d acc ρ hd' hP => by
      obtain ⟨l, b1, rfl, rfl, hb, hq, hp⟩ := hP
      have hj : j < ds.length := (List.getElem?_eq_some_iff.mp hd').1
      have hp0 := List.length_pos_iff.mpr h0
      obtain ⟨y, b2, e2, hy, hb2⟩ := of_ok (ds := (lb.drop (lb.length - 3)).map D.str) hb (by omega) (by simp; omega) (by simp; omega)
      obtain ⟨x, hx, rfl⟩ := List.mem_map.mp hy
      have hc := cut_last (ds := lb.map D.str) (k := 2)
      rw [List.length_map, drop_map] at hc
      have hc : cutD (lb.map D.str) (some (-3)) none = (lb.drop (lb.length - 3)).map D.str := hc
      refine ⟨_, true, _, rfl, rfl, .inr ⟨rfl, .val (.str x), [some (.o b2), some (.v (.lst (lb.map D.str))), some (.v (.int sh)), none, some (.v d)], .str x, _, ?_, rfl, l ++ [x], b2, by simp, rfl, hb2, by simp [hq], fun z hz => ?_⟩⟩
      · simp [-List.map_drop, Ent.d, hc, e2]
      · rcases List.mem_append.mp hz with h | h
        · exact hp z h
        · simp at h; subst h; exact List.mem_of_mem_drop hx
  rw [Nat.zero_add] at hb hq
  exact ⟨l, _, e, hb.mono (by omega), hq, hp⟩
theorem above_ok {N : Nat} {b : D} {lb : List Str} {sh : Int} (h : Box N b) (hN : N < 700000000) (hl : lb.length ≤ 10) (hg : ∀ x ∈ lb, gs x) :
    ∃ (ps : List Str) (b' : D), m__law_above b [.lst (lb.map D.str), .int sh] = some (.val (.tup (ps.map D.str)), b') ∧ Box (N + 4) b' ∧ ps.Nodup ∧ (∀ p ∈ ps, p ∈ lb) := by
  have e0 := eqO_nil (f := D.str) (g := PyData.str) (n := 0) lb (fun x hx => py_str (hg x hx)) (by decide)
  by_cases h0 : lb = []
  · subst h0
    refine ⟨[], b, ?_, h.mono (by omega), List.nodup_nil, fun p hp => hp⟩
    simp at e0
    simp [m__law_above, b__law_above, List.replicate, Ent.d, e0]
  · have e00 : lb.isEmpty = false := by cases lb with | nil => exact absurd rfl h0 | cons a l => rfl
    rw [e00] at e0
    obtain ⟨r, b1, e1, h1, h2, hb1⟩ := take_ok h (by omega) (n := 6) (by decide) (by decide)
    -- the last part
    have fin : ∀ (b2 : D) (N2 : Nat), Box N2 b2 → N2 ≤ N + 1 → sh ≠ 0 → ∃ (ps : List Str) (b' : D) (e3 e4 : Option Ent), (sSeq (sSet 3 (sLc (cRng1 (sCons (sOp addU (sC (.int 1)) (sOp mulU (sUn intD (sOp eqO (sVar 2) (sC (.int 2)))) (sCallI 0 m__law_take (sCons (sC (.int 2)) sNil)))) sNil)) [] [4] (hName 4) sYes (sCallI 0 m__law_of (sCons (sSlice (sVar 1) (sPart (sUn negD (sC (.int 3)))) sNoPart) sNil))))
        (sRet (sUn tupleD (sUn sortSetO (sVar 3))))) [some (.o b2), some (.v (.lst (lb.map D.str))), some (.v (.int sh)), none, none] = some (.rt (.val (.tup (ps.map D.str))) [some (.o b'), some (.v (.lst (lb.map D.str))), some (.v (.int sh)), e3, e4]) ∧ Box (N + 4) b' ∧ ps.Nodup ∧ (∀ p ∈ ps, p ∈ lb) := by
      intro b2 N2 hb2 hN2 hs
      obtain ⟨r2, b3, e3, k1, k2, hb3⟩ := take_ok hb2 (by omega) (n := 2) (by decide) (by decide)
      have hm : mulI (if decide (sh = 2) = true then 1 else 0) r2 = some ((if decide (sh = 2) = true then 1 else 0) * r2) := mulI_r (by omega)
      have hr : 1 ≤ 1 + (if decide (sh = 2) = true then (1 : Int) else 0) * r2 ∧ 1 + (if decide (sh = 2) = true then (1 : Int) else 0) * r2 ≤ 2 := by split <;> omega
      generalize hz : 1 + (if decide (sh = 2) = true then (1 : Int) else 0) * r2 = z at hr
      obtain ⟨l, b4, e4, hb4, hl4, hm4⟩ := above_row (sh := sh) (ds := rngF 0 z.toNat) hb3 (by omega) h0 hl (by simp [rngF]; omega)
      have hl5 : l.length ≤ 2 := by rw [hl4]; simp [rngF]; omega
      have hl6 : l.length < 4000 := by omega
      have hz2 : -1000000 ≤ z ∧ z ≤ 1000000 := by omega
      refine ⟨sortS (uniq l), b4, some (.o (.lst (l.map D.str))), none, ?_, hb4.mono (by omega), nodup_sortS (nodup_uniq _), fun p hp => hm4 p (mem_uniq.mp (mem_sortS.mp hp))⟩
      simp at hm hz
      simp [Ent.d, e3, hm, hz, hz2, e4, strsD_map, hl6]
    by_cases s2 : sh = 2
    · subst s2
      by_cases r0 : r = 0
      · subst r0
        exact ⟨[], b1, by simp [m__law_above, b__law_above, List.replicate, Ent.d, e0, e1], hb1.mono (by omega), List.nodup_nil, fun p hp => by cases hp⟩
      · obtain ⟨ps, b', e3, e4, q1, q2, q3, q4⟩ := fin b1 _ hb1 (Nat.le_refl _) (by decide)
        refine ⟨ps, b', runI_of ((seq_nx (ρ' := [some (.o b1), some (.v (.lst (lb.map D.str))), some (.v (.int 2)), none, none]) ?_).trans ((seq_nx (ρ' := [some (.o b1), some (.v (.lst (lb.map D.str))), some (.v (.int 2)), none, none]) ?_).trans q1)), q2, q3, q4⟩
        · simp [List.replicate, Ent.d, e0, e1, r0]
        · simp [Ent.d]
    · by_cases s0 : sh = 0
      · subst s0
        obtain ⟨l, x, rfl⟩ : ∃ l x, lb = l ++ [x] := ⟨lb.dropLast, lb.getLast h0, (List.dropLast_concat_getLast h0).symm⟩
        refine ⟨[x], b, ?_, h.mono (by omega), by simp, by simp⟩
        have e2 := last_ix (ds := l.map D.str) (d := .str x)
        simp only [List.map_append, List.map_cons, List.map_nil] at e0 ⊢
        simp [m__law_above, b__law_above, List.replicate, Ent.d, e0, e2]
      · obtain ⟨ps, b', e3, e4, q1, q2, q3, q4⟩ := fin b _ h (by omega) s0
        refine ⟨ps, b', runI_of ((seq_nx (ρ' := [some (.o b), some (.v (.lst (lb.map D.str))), some (.v (.int sh)), none, none]) ?_).trans ((seq_nx (ρ' := [some (.o b), some (.v (.lst (lb.map D.str))), some (.v (.int sh)), none, none]) ?_).trans q1)), q2, q3, q4⟩
        · simp [List.replicate, Ent.d, e0, s2]
        · simp [Ent.d, s0]
end Bl
namespace Bl
open PySem PySem.Spec PyProof.Rows L2 Evl
abbrev Com := Cm Str
def comD (c : Com) : D := .tup [.str c.1, .tup (c.2.1.map D.str), .tup (c.2.2.map D.str)]
def pool2 : List Str := ["a", "m", "n", "one", "q", "two", "x", "y", "top", "zzz"]
def spotD (s : Int × Str) : D := .tup [.int s.1, .str s.2]
theorem pool1_gs : ∀ x ∈ pool1, gs x := by decide +kernel
theorem pool2_gs : ∀ x ∈ pool2, gs x := by decide +kernel
theorem leD_str (a b : Str) : leD (.str a) (.str b) = leS a b := by
  have := congrFun (congrFun (PySem.W.dataLe_str (β := Str) id) a) b
  exact this
theorem sort_strs (l : List Str) : (l.map D.str).mergeSort leD = (sortS l).map D.str := by
  unfold sortS
  exact (List.map_mergeSort fun a _ b _ => (leD_str a b).symm).symm
theorem okSort_strs (l : List Str) (h : l.length ≤ 1000000) : okSort (l.map D.str) = true := by
  unfold okSort
  simp only [Bool.and_eq_true, List.all_eq_true, List.mem_map, Bool.or_eq_true, decide_eq_true_eq, List.length_map]
  refine ⟨⟨⟨?_, ?_⟩, .inr ?_⟩, h⟩
  · rintro d ⟨s, _, rfl⟩
    exact ⟨rfl, by show (PyData.str s).depth ≤ 60; simp [PyData.depth]⟩
  · rintro d ⟨s, _, rfl⟩ d' ⟨s', _, rfl⟩
    rfl
  · rintro d ⟨s, _, rfl⟩
    rfl
/-- where each name comes -/
theorem spots_row {N : Nat} {b : D} {nm : List Str} {n : Int} {e3 e4 e5 : Option Ent} (h : Box N b) (hN : N < 700000000) (hl : nm.length ≤ 10) (hn : 0 < n) (hn2 : n ≤ 10) :
    ∃ (sp : List (Int × Str)) (b' : D), lcL [10] (hName 10) sYes (sTup (sCons (sCallI 0 m__law_take (sCons (sVar 2) sNil)) (sCons (sVar 10) sNil))) (nm.map D.str) [] [some (.o b), some (.v (.lst (nm.map D.str))), some (.v (.int n)), e3, e4, e5, none, none, none, none, none, none, none] =
      some (sp.map spotD, [some (.o b'), some (.v (.lst (nm.map D.str))), some (.v (.int n)), e3, e4, e5, none, none, none, none, none, none, none]) ∧ Box (N + 10) b' ∧ sp.map (·.2) = nm ∧ ∀ s ∈ sp, 0 ≤ s.1 ∧ s.1 < n := by
  obtain ⟨acc, ρ', e, sp, b', rfl, rfl, hb, hq, hp⟩ := lcL_some (vs := [10]) (g := hName 10) (t := sYes) (f := sTup (sCons (sCallI 0 m__law_take (sCons (sVar 2) sNil)) (sCons (sVar 10) sNil)))
    (fun i acc ρ => ∃ (sp : List (Int × Str)) (b' : D), acc = sp.map spotD ∧ ρ = [some (.o b'), some (.v (.lst (nm.map D.str))), some (.v (.int n)), e3, e4, e5, none, none, none, none, none, none, none] ∧ Box (N + i) b' ∧ sp.map (·.2) = nm.take i ∧ ∀ s ∈ sp, 0 ≤ s.1 ∧ s.1 < n)
    (nm.map D.str) 0 [] [some (.o b), some (.v (.lst (nm.map D.str))), some (.v (.int n)), e3, e4, e5, none, none, none, none, none, none, none] (by simp; omega) ⟨[], b, rfl, rfl, h, rfl, fun p hp => by cases hp⟩ fun j d acc ρ hd hP => by
      obtain ⟨sp, b1, rfl, rfl, hb, hq, hp⟩ := hP
      rw [Nat.zero_add] at hb hq ⊢
      rw [List.getElem?_map] at hd
      obtain ⟨x, hx, rfl⟩ := Option.map_eq_some_iff.mp hd
      have hj : j < nm.length := (List.getElem?_eq_some_iff.mp hx).1
      obtain ⟨r, b2, e2, h1, h2, hb2⟩ := take_ok hb (by omega) (n := n) hn (by omega)
      refine ⟨_, true, _, rfl, rfl, .inr ⟨rfl, .val (spotD (r, x)), [some (.o b2), some (.v (.lst (nm.map D.str))), some (.v (.int n)), e3, e4, e5, none, none, none, none, some (.v (.str x)), none, none], spotD (r, x), _, ?_, rfl, sp ++ [(r, x)], b2, by simp, rfl, hb2, ?_, fun z hz => ?_⟩⟩
      · simp [Ent.d, e2, spotD]
      · rw [List.map_append, hq, List.take_add_one, hx]; rfl
      · rcases List.mem_append.mp hz with h | h
        · exact hp z h
        · simp at h; subst h; exact ⟨h1, h2⟩
  rw [Nat.zero_add, List.length_map] at hb hq
  exact ⟨sp, _, e, hb.mono (by omega), by rw [hq, List.take_length], hp⟩
def CmP (N : Nat) (nm : List Str) (n sh : Int) (sp : List (Int × Str)) (i : Nat) (ρ : En) : Prop := ∃ (b : D) (pool : List Str) (rows : List Com) (e6 : Ent) (e7 e8 e9 : Option Ent),
  ρ = [some (.o b), some (.v (.lst (nm.map D.str))), some (.v (.int n)), some (.v (.int sh)), some (.o (.lst (pool.map D.str))), some (.o (.lst (rows.map comD))), some e6, e7, e8, e9, none, none, none] ∧ e6.d = .lst (sp.map spotD) ∧
  Box (N + 5 * i) b ∧ pool.length + i = 10 ∧ rows.length = i ∧ (rows.map (·.1) ++ pool).Perm pool2 ∧ Okc rows ∧ (∀ c ∈ rows, c.2.1.Nodup) ∧ (rows.flatMap (·.2.2)).Perm ((sp.filter fun s => decide (s.1 < (i : Int))).map (·.2))
theorem Okc.snoc {cm : List Com} (o : Okc cm) {c : Com} (h1 : c.1 ∉ cm.map (·.1)) (h2 : ∀ p ∈ c.2.1, p ∈ cm.map (·.1)) : Okc (cm ++ [c]) := by
  refine ⟨?_, fun pre d post e => ?_⟩
  · rw [List.map_append, List.nodup_append]
    exact ⟨o.nd, by simp, fun x hx y hy => by simp at hy; subst hy; intro e; subst e; exact h1 hx⟩
  · rcases List.eq_nil_or_concat post with rfl | ⟨q, z, rfl⟩
    · have := List.append_inj' e rfl
      obtain ⟨rfl, e2⟩ := this
      cases e2
      exact h2
    · have e' : cm ++ [c] = (pre ++ d :: q) ++ [z] := by rw [e]; simp
      have := List.append_inj' e' rfl
      exact o.up pre d q this.1
theorem filt_perm (sp : List (Int × Str)) (i : Nat) : ((sp.filter fun s => decide (s.1 < (i : Int))) ++ (sp.filter fun s => decide (s.1 = (i : Int)))).Perm (sp.filter fun s => decide (s.1 < ((i + 1 : Nat) : Int))) := by
  induction sp with
  | nil => exact List.Perm.refl _
  | cons s sp ih =>
    rw [List.filter_cons, List.filter_cons, List.filter_cons]
    by_cases h1 : s.1 < (i : Int)
    · have h2 : ¬ s.1 = (i : Int) := by omega
      have h3 : s.1 < ((i + 1 : Nat) : Int) := by omega
      simp only [decide_eq_true h1, decide_eq_false h2, decide_eq_true h3, if_pos, Bool.false_eq_true, if_false, List.cons_append]
      exact ih.cons s
    · by_cases h2 : s.1 = (i : Int)
      · have h3 : s.1 < ((i + 1 : Nat) : Int) := by omega
        simp only [decide_eq_false h1, decide_eq_true h2, decide_eq_true h3, if_pos, Bool.false_eq_true, if_false]
        exact List.perm_middle.trans (ih.cons s)
      · have h3 : ¬ s.1 < ((i + 1 : Nat) : Int) := by omega
        simp only [decide_eq_false h1, decide_eq_false h2, decide_eq_false h3, Bool.false_eq_true, if_false]
        exact ih
theorem commits_turn {N i : Nat} {nm : List Str} {n sh : Int} {sp : List (Int × Str)} {ρ : En} (hN : N < 600000000) (hi : i < 9) (hs : sp.length ≤ 10) (h : CmP N nm n sh sp i ρ) :
    ∃ ρ2, (sSeq (sSet 8 (sPopAt 4 (sCallI 0 m__law_take (sCons (sUn lenD (sVar 4)) sNil))))
      (sSeq (sSet 9 (sCallI 0 m__law_above (sCons (sLc (cPl 5) [5] [11] (hName 11) sYes (sOp ixSeq (sVar 11) (sC (.int 0)))) (sCons (sVar 3) sNil))))
      (sExpr (sApp 5 (sTup (sCons (sVar 8) (sCons (sVar 9) (sCons (sUn tupleD (sUn sortO (sLc (cRel (sVar 6)) [] [12, 10] (hTup 2 (hCons (hName 12) (hCons (hName 10) hNil))) (sB (sOp eqO (sVar 12) (sVar 7))) (sVar 10)))) sNil))))))))
      (ρ.set 7 (some (.v (.int (i : Int))))) = some (.nx ρ2) ∧ CmP N nm n sh sp (i + 1) ρ2 := by
  obtain ⟨b, pool, rows, e6, e7, e8, e9, rfl, h6, hb, hp, hr, hperm, ok, hnd, hfr⟩ := h
  obtain ⟨r, b1, e1, h1, h2, hb1⟩ := take_ok hb (by omega) (n := pool.length) (by omega) (by omega)
  obtain ⟨x, g1, g2, g3, g4⟩ := pop_ix h1 h2
  have hz1 : -1000000 ≤ r ∧ r ≤ 1000000 := by omega
  have hlab : ∀ y ∈ rows.map (·.1), gs y := fun y hy => pool2_gs y (hperm.mem_iff.mp (List.mem_append_left _ hy))
  obtain ⟨ps, b2, e2, hb2, hpn, hpm⟩ := above_ok (sh := sh) (lb := rows.map (·.1)) hb1 (by omega) (by simp; omega) hlab
  have nd : (rows.map (·.1) ++ pool).Nodup := hperm.nodup_iff.mpr (by decide +kernel)
  have hx : x ∈ pool := g3.mem_iff.mpr (List.mem_cons_self ..)
  have hxn : x ∉ rows.map (·.1) := fun q => (List.nodup_append.mp nd).2.2 x q x hx rfl
  have lab : lcL [11] (hName 11) sYes (sOp ixSeq (sVar 11) (sC (.int 0))) (rows.map comD) [] [some (.o b1), some (.v (.lst (nm.map D.str))), some (.v (.int n)), some (.v (.int sh)), some (.o (.lst ((pool.eraseIdx r.toNat).map D.str))), none, some e6, some (.v (.int (i : Int))), some (.v (.str x)), e9, none, none, none] =
      some ((rows.map (·.1)).map D.str, [some (.o b1), some (.v (.lst (nm.map D.str))), some (.v (.int n)), some (.v (.int sh)), some (.o (.lst ((pool.eraseIdx r.toNat).map D.str))), none, some e6, some (.v (.int (i : Int))), some (.v (.str x)), e9, none, none, none]) := by
    refine lcL_mapT comD (·.1) D.str rows (by omega) fun c hc => ⟨_, .val (.str c.1), rfl, rfl, ?_, rfl⟩
    simp [Ent.d, comD, atI, ixN]
  let fr := sortS ((sp.filter fun s => decide (s.1 = (i : Int))).map (·.2))
  have frow : ∀ e9 : Option Ent, lcL [12, 10] (hTup 2 (hCons (hName 12) (hCons (hName 10) hNil))) (sB (sOp eqO (sVar 12) (sVar 7))) (sVar 10) (sp.map spotD) [] [some (.o b2), some (.v (.lst (nm.map D.str))), some (.v (.int n)), some (.v (.int sh)), some (.o (.lst ((pool.eraseIdx r.toNat).map D.str))), some (.o (.lst (rows.map comD))), some (.v (.lst (sp.map spotD))), some (.v (.int (i : Int))), some (.v (.str x)), e9, none, none, none] =
      some (((sp.filter fun s => decide (s.1 = (i : Int))).map (·.2)).map D.str, [some (.o b2), some (.v (.lst (nm.map D.str))), some (.v (.int n)), some (.v (.int sh)), some (.o (.lst ((pool.eraseIdx r.toNat).map D.str))), some (.o (.lst (rows.map comD))), some (.v (.lst (sp.map spotD))), some (.v (.int (i : Int))), some (.v (.str x)), e9, none, none, none]) := by
    intro e9
    have e : (sp.filter fun s => decide (s.1 = (i : Int))).map (·.2) = sp.filterMap fun s => if s.1 = (i : Int) then some s.2 else none := by
      clear hfr h6 hs
      induction sp with
      | nil => rfl
      | cons s sp ih => by_cases h : s.1 = (i : Int) <;> simp [h, ih]
    rw [e]
    refine lcL_fltT spotD _ D.str sp (by omega) fun s hs => ⟨_, rfl, rfl, ?_⟩
    by_cases h : s.1 = (i : Int)
    · exact .inr ⟨s.2, .pl 10, by simp [h], by simp [Ent.d, h], by simp, by simp⟩
    · exact .inl ⟨by simp [h], by simp [Ent.d, h]⟩
  have hfl : (sp.filter fun s => decide (s.1 = (i : Int))).length ≤ 10 := Nat.le_trans (List.length_filter_le _ _) hs
  have okS := okSort_strs ((sp.filter fun s => decide (s.1 = (i : Int))).map (·.2)) (by simp; omega)
  have srt := sort_strs ((sp.filter fun s => decide (s.1 = (i : Int))).map (·.2))
  have hz2 : rows.length < 1000000 := by omega
  refine ⟨[some (.o b2), some (.v (.lst (nm.map D.str))), some (.v (.int n)), some (.v (.int sh)), some (.o (.lst ((pool.eraseIdx r.toNat).map D.str))), some (.o (.lst ((rows ++ [(x, ps, fr)]).map comD))), some (.v (.lst (sp.map spotD))), some (.v (.int (i : Int))), some (.v (.str x)), some (.v (.tup (ps.map D.str))), none, none, none],
    (seq_nx (ρ' := [some (.o b1), some (.v (.lst (nm.map D.str))), some (.v (.int n)), some (.v (.int sh)), some (.o (.lst ((pool.eraseIdx r.toNat).map D.str))), some (.o (.lst (rows.map comD))), some e6, some (.v (.int (i : Int))), some (.v (.str x)), e9, none, none, none]) ?_).trans ((seq_nx (ρ' := [some (.o b2), some (.v (.lst (nm.map D.str))), some (.v (.int n)), some (.v (.int sh)), some (.o (.lst ((pool.eraseIdx r.toNat).map D.str))), some (.o (.lst (rows.map comD))), some e6, some (.v (.int (i : Int))), some (.v (.str x)), some (.v (.tup (ps.map D.str))), none, none, none]) ?_).trans ?_), ?_⟩
  · simp [Ent.d, e1, g1, g2, hz1, map_erase]
  · simp [-List.map_map, Ent.d, lab, e2]
  · cases e6 with
    | v z =>
      cases h6
      simp [-List.map_map, Ent.d, frow, okS, srt, hz2, comD, fr]
    | o z =>
      cases h6
      simp [-List.map_map, Ent.d, frow, okS, srt, hz2, comD, fr]
  · refine ⟨b2, _, _, _, _, _, _, rfl, rfl, hb2.mono (by omega), by omega, by simp [hr], ?_, ok.snoc hxn hpm, ?_, ?_⟩
    · refine List.Perm.trans ?_ hperm
      have : (rows ++ [(x, ps, fr)]).map (·.1) ++ pool.eraseIdx r.toNat = rows.map (·.1) ++ (x :: pool.eraseIdx r.toNat) := by simp
      rw [this]
      exact List.Perm.append_left _ g3.symm
    · intro c hc
      rcases List.mem_append.mp hc with q | q
      · exact hnd c q
      · simp at q; subst q; exact hpn
    · rw [List.flatMap_append]
      have fp := (filt_perm sp i).map (fun s : Int × Str => s.2)
      rw [List.map_append] at fp
      refine List.Perm.trans (List.Perm.append hfr ?_) fp
      rw [List.flatMap_cons, List.flatMap_nil, List.append_nil]
      exact List.mergeSort_perm _ _
end Bl
namespace Bl
open PySem PySem.Spec PyProof.Rows L2 Evl
theorem commits_ok {N : Nat} {b : D} {nm : List Str} {n sh : Int} (h : Box N b) (hN : N < 500000000) (hl : nm.length ≤ 10) (hn : 0 < n) (hn2 : n ≤ 9) :
    ∃ (cm : List Com) (b' : D), m__law_commits b [.lst (nm.map D.str), .int n, .int sh] = some (.val (.tup (cm.map comD)), b') ∧ Box (N + 100) b' ∧ cm.length = n.toNat ∧ Okc cm ∧ (∀ c ∈ cm, c.1 ∈ pool2) ∧ (∀ c ∈ cm, c.2.1.Nodup) ∧ (cm.flatMap (·.2.2)).Perm nm := by
  have hr1 : -1000000 ≤ n ∧ n ≤ 1000000 := by omega
  obtain ⟨sp, b1, e1, hb1, hsp, hsn⟩ := spots_row (n := n) (e3 := some (.v (.int sh))) (e4 := some (.o (.lst (pool2.map D.str)))) (e5 := some (.o (.lst []))) h (by omega) hl hn (by omega)
  have hsl : sp.length ≤ 10 := by have := congrArg List.length hsp; simp at this; omega
  obtain ⟨ρ', e2, hP⟩ := forL_some (g := hName 7) (f := sSeq (sSet 8 (sPopAt 4 (sCallI 0 m__law_take (sCons (sUn lenD (sVar 4)) sNil))))
      (sSeq (sSet 9 (sCallI 0 m__law_above (sCons (sLc (cPl 5) [5] [11] (hName 11) sYes (sOp ixSeq (sVar 11) (sC (.int 0)))) (sCons (sVar 3) sNil))))
      (sExpr (sApp 5 (sTup (sCons (sVar 8) (sCons (sVar 9) (sCons (sUn tupleD (sUn sortO (sLc (cRel (sVar 6)) [] [12, 10] (hTup 2 (hCons (hName 12) (hCons (hName 10) hNil))) (sB (sOp eqO (sVar 12) (sVar 7))) (sVar 10)))) sNil)))))))) (CmP (N + 10) nm n sh sp) (rngF 0 n.toNat) 0
    [some (.o b1), some (.v (.lst (nm.map D.str))), some (.v (.int n)), some (.v (.int sh)), some (.o (.lst (pool2.map D.str))), some (.o (.lst [])), some (.o (.lst (sp.map spotD))), none, none, none, none, none, none]
    ⟨b1, pool2, [], _, none, none, none, rfl, rfl, hb1, rfl, rfl, List.Perm.refl _, ⟨List.nodup_nil, fun pre c post e => by simp at e⟩, (fun c hc => by cases hc), by
      have : (sp.filter fun s => decide (s.1 < ((0 : Nat) : Int))) = [] := List.filter_eq_nil_iff.mpr fun s hs => by have := (hsn s hs).1; simp; omega
      rw [this]; exact List.Perm.refl _⟩ fun j d ρ hd hp => by
      have hj := iota_get hd
      rw [Nat.zero_add] at hp ⊢
      have hd' : d = .int (j : Int) := by
        unfold rngF at hd
        rw [List.getElem?_map, List.getElem?_range hj] at hd
        cases hd
        simp
      subst hd'
      obtain ⟨ρ2, q1, q2⟩ := commits_turn (by omega) (by omega) hsl hp
      exact ⟨_, ρ2, rfl, q1, q2⟩
  have hlen : (rngF 0 n.toNat).length = n.toNat := by simp [rngF]
  rw [hlen, Nat.zero_add] at hP
  obtain ⟨b2, pool, rows, e6, e7, e8, e9, rfl, h6, hb, hp, hr, hperm, ok, hnd, hfr⟩ := hP
  refine ⟨rows, b2, runI_of (ρ := [some (.v (.lst (nm.map D.str))), some (.v (.int n)), some (.v (.int sh)), some (.o (.lst (pool.map D.str))), some (.o (.lst (rows.map comD))), some e6, e7, e8, e9, none, none, none]) ((seq_nx (ρ' := [some (.o b), some (.v (.lst (nm.map D.str))), some (.v (.int n)), some (.v (.int sh)), some (.o (.lst (pool2.map D.str))), some (.o (.lst [])), none, none, none, none, none, none, none]) ?_).trans ((seq_nx (ρ' := [some (.o b1), some (.v (.lst (nm.map D.str))), some (.v (.int n)), some (.v (.int sh)), some (.o (.lst (pool2.map D.str))), some (.o (.lst [])), some (.o (.lst (sp.map spotD))), none, none, none, none, none, none]) ?_).trans ((seq_nx (ρ' := [some (.o b2), some (.v (.lst (nm.map D.str))), some (.v (.int n)), some (.v (.int sh)), some (.o (.lst (pool.map D.str))), some (.o (.lst (rows.map comD))), some e6, e7, e8, e9, none, none, none]) ?_).trans ?_))), hb.mono (by omega), hr, ok, ?_, hnd, ?_⟩
  · simp [List.replicate, pool2]
  · simp [e1]
  · rw [e_sFor]
    simp [hr1, e2]
  · simp [Ent.d]
  · exact fun c hc => hperm.mem_iff.mp (List.mem_append_left _ (List.mem_map.mpr ⟨c, hc, rfl⟩))
  · have : (sp.filter fun s => decide (s.1 < (n.toNat : Int))) = sp := List.filter_eq_self.mpr fun s hs => by have := (hsn s hs).2; simp; omega
    rw [this, hsp] at hfr
    exact hfr
structure Pn where
  st : List Stp
  tc : List (Str × Str)
  cm : List Com
def Pn.names (p : Pn) : List Str := p.st.map (·.1)
def Pn.labels (p : Pn) : List Str := p.cm.map (·.1)
def planD (p : Pn) : D := .tup [.tup (p.st.map stepD), .tup (p.tc.map pairD), .tup (p.cm.map comD)]
structure OkP (p : Pn) : Prop where
  nd : p.names.Nodup
  st : ∀ s ∈ p.st, s.1 ∈ pool1 ∧ okF s.2
  s0 : p.st ≠ []
  sl : p.st.length ≤ 9
  tc : ∀ q ∈ p.tc, q.1 ∈ p.names ∧ q.2 ∈ p.names
  tl : p.tc.length ≤ 100
  okc : Okc p.cm
  lab : ∀ c ∈ p.cm, c.1 ∈ pool2
  c0 : p.cm ≠ []
  cl : p.cm.length ≤ 9
  pnd : ∀ c ∈ p.cm, c.2.1.Nodup
  fr : (p.cm.flatMap (·.2.2)).Perm p.names
theorem plan_ok {N : Nat} {b : D} {n k th sh : Int} (h : Box N b) (hN : N < 400000000) (hn : 0 < n) (hn2 : n ≤ 9) (hk : 0 < k) (hk2 : k ≤ 9) :
    ∃ (p : Pn) (b' : D), m__law_plan b [.int n, .int k, .int th, .int sh] = some (.val (planD p), b') ∧ Box (N + 1000) b' ∧ OkP p := by
  obtain ⟨st, b1, e1, hb1, hl1, nd1, ok1⟩ := steps_ok h (by omega) hn hn2
  have hl : (st.map (·.1)).length ≤ 10 := by simp; omega
  obtain ⟨ps, b2, e2, hb2, hl2, ok2⟩ := touch_ok (nm := st.map (·.1)) (th := th) hb1 (by omega) hl
  obtain ⟨cm, b3, e3, hb3, hl3, okc, lab, pnd, fr⟩ := commits_ok (nm := st.map (·.1)) (n := k) (sh := sh) hb2 (by omega) hl hk hk2
  have row : lcL [7, 8] (hTup 2 (hCons (hName 7) (hCons (hName 8) hNil))) sYes (sVar 7) (st.map stepD) [] [some (.o b1), some (.v (.int n)), some (.v (.int k)), some (.v (.int th)), some (.v (.int sh)), some (.v (.tup (st.map stepD))), none, none, none] = some ((st.map (·.1)).map D.str, [some (.o b1), some (.v (.int n)), some (.v (.int k)), some (.v (.int th)), some (.v (.int sh)), some (.v (.tup (st.map stepD))), none, none, none]) := by
    refine lcL_mapT stepD (·.1) D.str st (by omega) fun c hc => ⟨_, .pl 7, rfl, rfl, ?_, ?_⟩
    · simp
    · simp
  refine ⟨⟨st, ps, cm⟩, b3, runI_of (ρ := [some (.v (.int n)), some (.v (.int k)), some (.v (.int th)), some (.v (.int sh)), some (.v (.tup (st.map stepD))), some (.v (.lst ((st.map (·.1)).map D.str))), none, none]) ?_, hb3.mono (by omega), ?_⟩
  · simp [-List.map_map, b__law_plan, List.replicate, e1, row, e2, e3, planD]
  · exact ⟨nd1, ok1, fun e => by have e : st = [] := e; rw [e] at hl1; simp at hl1; omega, by show st.length ≤ 9; omega, ok2, hl2, okc, lab, fun e => by have e : cm = [] := e; rw [e] at hl3; simp at hl3; omega, by show cm.length ≤ 9; omega, pnd, fr⟩
end Bl
namespace Bl
open PySem PySem.Spec PyProof.Rows L2 Evl
/-! tuples for lists, lists for tuples -/
theorem isi_flat {d : D} (h : flatD d = true) : isiO ["list", "tuple"] d = some (.val (.bl false)) := by
  cases d <;> first | rfl | cases h
theorem tupled_flat {d : D} (h : flatD d = true) (n : Nat) : m_tupled (n + 1) [d] = some (.val d) := by
  have := isi_flat h
  simp [-e_isiO, m_tupled, b_tupled, List.replicate, Ent.d, this]
theorem isi_l (ds : List D) : isiO ["list", "tuple"] (.lst ds) = some (.val (.bl true)) := rfl
theorem isi_t (ds : List D) : isiO ["list", "tuple"] (.tup ds) = some (.val (.bl true)) := rfl
theorem tupled_l {α : Type} {f g : α → D} {n : Nat} {l : List α} (hl : l.length ≤ 1000000) (h : ∀ a ∈ l, m_tupled n [f a] = some (.val (g a))) : m_tupled (n + 1) [.lst (l.map f)] = some (.val (.tup (l.map g))) := by
  have row : lcL [1] (hName 1) sYes (sCall (m_tupled n) (sCons (sVar 1) sNil)) (l.map f) [] [some (.v (.lst (l.map f))), none] = some ((l.map g).map id, [some (.v (.lst (l.map f))), none]) := by
    refine lcL_mapT f g id l hl fun a ha => ⟨_, .val (g a), rfl, rfl, ?_, rfl⟩
    simp [h a ha]
  rw [List.map_id] at row
  simp [-e_isiO, m_tupled, b_tupled, List.replicate, Ent.d, isi_l, row]
theorem tupled_t {α : Type} {f g : α → D} {n : Nat} {l : List α} (hl : l.length ≤ 1000000) (h : ∀ a ∈ l, m_tupled n [f a] = some (.val (g a))) : m_tupled (n + 1) [.tup (l.map f)] = some (.val (.tup (l.map g))) := by
  have row : lcL [1] (hName 1) sYes (sCall (m_tupled n) (sCons (sVar 1) sNil)) (l.map f) [] [some (.v (.tup (l.map f))), none] = some ((l.map g).map id, [some (.v (.tup (l.map f))), none]) := by
    refine lcL_mapT f g id l hl fun a ha => ⟨_, .val (g a), rfl, rfl, ?_, rfl⟩
    simp [h a ha]
  rw [List.map_id] at row
  simp [-e_isiO, m_tupled, b_tupled, List.replicate, Ent.d, isi_t, row]
/-! a plan's forms -/
def stepL (s : Stp) : D := .lst [.str s.1, .lst [.int s.2.1, .int s.2.2]]
def pairL (p : Str × Str) : D := .lst [.str p.1, .str p.2]
def comL (c : Com) : D := .lst [.str c.1, .lst (c.2.1.map D.str), .lst (c.2.2.map D.str)]
def planL (p : Pn) : D := .lst [.lst (p.st.map stepL), .lst (p.tc.map pairL), .lst (p.cm.map comL)]
theorem tupled_two {x y x' y' : D} {n : Nat} (h1 : m_tupled n [x] = some (.val x')) (h2 : m_tupled n [y] = some (.val y')) : m_tupled (n + 1) [.lst [x, y]] = some (.val (.tup [x', y'])) ∧ m_tupled (n + 1) [.tup [x, y]] = some (.val (.tup [x', y'])) := by
  have h : ∀ a ∈ [(x, x'), (y, y')], m_tupled n [a.1] = some (.val a.2) := by simp [h1, h2]
  exact ⟨tupled_l (f := Prod.fst) (g := Prod.snd) (l := [(x, x'), (y, y')]) (by simp) h, tupled_t (f := Prod.fst) (g := Prod.snd) (l := [(x, x'), (y, y')]) (by simp) h⟩
theorem tupled_three {x y z x' y' z' : D} {n : Nat} (h1 : m_tupled n [x] = some (.val x')) (h2 : m_tupled n [y] = some (.val y')) (h3 : m_tupled n [z] = some (.val z')) : m_tupled (n + 1) [.lst [x, y, z]] = some (.val (.tup [x', y', z'])) ∧ m_tupled (n + 1) [.tup [x, y, z]] = some (.val (.tup [x', y', z'])) := by
  have h : ∀ a ∈ [(x, x'), (y, y'), (z, z')], m_tupled n [a.1] = some (.val a.2) := by simp [h1, h2, h3]
  exact ⟨tupled_l (f := Prod.fst) (g := Prod.snd) (l := [(x, x'), (y, y'), (z, z')]) (by simp) h, tupled_t (f := Prod.fst) (g := Prod.snd) (l := [(x, x'), (y, y'), (z, z')]) (by simp) h⟩
theorem tupled_strs (l : List Str) (hl : l.length ≤ 1000000) (n : Nat) : m_tupled (n + 2) [.lst (l.map D.str)] = some (.val (.tup (l.map D.str))) ∧ m_tupled (n + 2) [.tup (l.map D.str)] = some (.val (.tup (l.map D.str))) :=
  ⟨tupled_l hl fun a _ => tupled_flat rfl n, tupled_t hl fun a _ => tupled_flat rfl n⟩
structure Small (p : Pn) : Prop where
  s : p.st.length ≤ 1000
  t : p.tc.length ≤ 1000
  c : p.cm.length ≤ 1000
  r : ∀ c ∈ p.cm, c.2.1.length ≤ 1000 ∧ c.2.2.length ≤ 1000
theorem nodup_len {α : Type} [DecidableEq α] : ∀ (l m : List α), l.Nodup → (∀ x ∈ l, x ∈ m) → l.length ≤ m.length
  | [], _, _, _ => Nat.zero_le _
  | a :: l, m, nd, h => by
    rw [List.nodup_cons] at nd
    have ha := h a (List.mem_cons_self ..)
    have := nodup_len l (m.erase a) nd.2 fun x hx => (List.mem_erase_of_ne (fun (e : x = a) => nd.1 (e ▸ hx))).mpr (h x (List.mem_cons_of_mem _ hx))
    rw [List.length_erase_of_mem ha] at this
    have := List.length_pos_of_mem ha
    simp; omega
theorem OkP.small {p : Pn} (o : OkP p) : Small p := by
  refine ⟨Nat.le_trans o.sl (by decide), Nat.le_trans o.tl (by decide), Nat.le_trans o.cl (by decide), fun c hc => ⟨?_, ?_⟩⟩
  · have := nodup_len c.2.1 (p.cm.map (·.1)) (o.pnd c hc) fun x hx => o.okc.par_mem hc hx
    have := o.cl
    simp at *
    omega
  · have nd : (p.cm.flatMap (·.2.2)).Nodup := o.fr.nodup_iff.mpr o.nd
    have := nodup_len c.2.2 (p.cm.flatMap (·.2.2)) ((List.pairwise_flatMap.mp nd).1 c hc) fun x hx => List.mem_flatMap.mpr ⟨c, hc, hx⟩
    rw [o.fr.length_eq] at this
    have := o.sl
    simp [Pn.names] at *
    omega
theorem tupled_plan {p : Pn} (o : Small p) : m_tupled 6 [planD p] = some (.val (planD p)) ∧ m_tupled 6 [planL p] = some (.val (planD p)) := by
  have hs : ∀ s ∈ p.st, m_tupled 4 [stepD s] = some (.val (stepD s)) ∧ m_tupled 4 [stepL s] = some (.val (stepD s)) := fun s _ =>
    ⟨(tupled_two (tupled_flat rfl 2) (tupled_two (tupled_flat rfl 1) (tupled_flat rfl 1)).2).2, (tupled_two (tupled_flat rfl 2) (tupled_two (tupled_flat rfl 1) (tupled_flat rfl 1)).1).1⟩
  have ht : ∀ s ∈ p.tc, m_tupled 4 [pairD s] = some (.val (pairD s)) ∧ m_tupled 4 [pairL s] = some (.val (pairD s)) := fun s _ =>
    ⟨(tupled_two (tupled_flat rfl 2) (tupled_flat rfl 2)).2, (tupled_two (tupled_flat rfl 2) (tupled_flat rfl 2)).1⟩
  have hc : ∀ s ∈ p.cm, m_tupled 4 [comD s] = some (.val (comD s)) ∧ m_tupled 4 [comL s] = some (.val (comD s)) := fun s h => by
    have h1 := tupled_strs s.2.1 (Nat.le_trans (o.r s h).1 (by decide)) 1
    have h2 := tupled_strs s.2.2 (Nat.le_trans (o.r s h).2 (by decide)) 1
    exact ⟨(tupled_three (tupled_flat rfl 2) h1.2 h2.2).2, (tupled_three (tupled_flat rfl 2) h1.1 h2.1).1⟩
  have l1 := Nat.le_trans o.s (by decide : 1000 ≤ 1000000)
  have l2 := Nat.le_trans o.t (by decide : 1000 ≤ 1000000)
  have l3 := Nat.le_trans o.c (by decide : 1000 ≤ 1000000)
  exact ⟨(tupled_three (tupled_t l1 fun s h => (hs s h).1) (tupled_t l2 fun s h => (ht s h).1) (tupled_t l3 fun s h => (hc s h).1)).2,
    (tupled_three (tupled_l l1 fun s h => (hs s h).2) (tupled_l l2 fun s h => (ht s h).2) (tupled_l l3 fun s h => (hc s h).2)).1⟩
end Bl
namespace Bl
open PySem PySem.Spec PyProof.Rows L2 Evl
/-! dicts of data -/
theorem getK_find {α : Type} (k : α → Key) (v : α → D) (l : List α) (key : Key) : getK (l.map fun a => (k a, v a)) key = (l.find? fun a => decide (k a = key)).map v := by
  unfold getK
  induction l with
  | nil => rfl
  | cons a l ih =>
    rw [List.map_cons, List.find?_cons, List.find?_cons]
    cases h : decide (k a = key) with
    | true => simp [h]
    | false => simpa [h] using ih
theorem putD_new {kvs : List (Key × D)} {k : Key} {v : D} (h : k ∉ kvs.map (·.1)) : putD kvs k v = kvs ++ [(k, v)] := by
  unfold putD
  rw [if_neg]
  intro q
  rw [List.any_eq_true] at q
  obtain ⟨x, hx, e⟩ := q
  rw [decide_eq_true_eq] at e
  exact h (List.mem_map.mpr ⟨x, hx, e⟩)
theorem mergeD_new : ∀ (more kvs : List (Key × D)), ((kvs ++ more).map (·.1)).Nodup → mergeD kvs more = kvs ++ more
  | [], kvs, _ => by simp [mergeD]
  | x :: more, kvs, h => by
    have hk : x.1 ∉ kvs.map (·.1) := fun q => by
      rw [List.map_append, List.nodup_append] at h
      exact h.2.2 x.1 q x.1 (List.mem_cons_self ..) rfl
    show mergeD (putD kvs x.1 x.2) more = _
    rw [putD_new hk, mergeD_new more _ (by simpa using h)]
    simp
/-- texts, all true -/
def tru (l : List Str) : List (Key × D) := l.map fun s => ((Sum.inr s : Key), D.bl true)
theorem tru_len (l : List Str) : (tru l).length = l.length := by simp [tru]
theorem put_tru (l : List Str) (k : Str) : putD (tru l) (.inr k) (.bl true) = tru (if k ∈ l then l else l ++ [k]) := by
  by_cases h : k ∈ l
  · rw [if_pos h]
    unfold putD
    rw [if_pos]
    · unfold tru
      rw [List.map_map]
      refine List.map_congr_left fun s _ => ?_
      simp only [Function.comp]
      split
      · rename_i e; rw [e]
      · rfl
    · rw [List.any_eq_true]
      exact ⟨(.inr k, .bl true), List.mem_map.mpr ⟨k, h, rfl⟩, by simp⟩
  · rw [if_neg h, putD_new]
    · simp [tru]
    · intro q
      obtain ⟨x, hx, e⟩ := List.mem_map.mp q
      obtain ⟨s, hs, rfl⟩ := List.mem_map.mp hx
      cases e
      exact h hs
theorem merge_tru : ∀ (b a : List Str), mergeD (tru a) (tru b) = tru (mrg a b)
  | [], a => rfl
  | k :: b, a => by
    show mergeD (putD (tru a) (.inr k) (.bl true)) (tru b) = tru (mrg (if k ∈ a then a else a ++ [k]) b)
    rw [put_tru, merge_tru b]
theorem mrg_len : ∀ (b a : List Str), (mrg a b).length ≤ a.length + b.length
  | [], a => Nat.le_refl _
  | k :: b, a => by
    have := mrg_len b (if k ∈ a then a else a ++ [k])
    show (mrg (if k ∈ a then a else a ++ [k]) b).length ≤ _
    split at this
    · simp; rw [if_pos ‹_›]; omega
    · rw [if_neg ‹_›]; simp at *; omega
theorem dcL_tru {vs : List Nat} {g : Gs} {fk : Ev} {ρ : En} : ∀ (l acc : List Str), acc.length + l.length ≤ 1000000 → (∀ x ∈ l, ∃ ρ1 w, g (.str x) ρ = some ρ1 ∧ mask vs ρ1 = ρ ∧ fk ρ1 = some (w, ρ1) ∧ rel ρ1 w = some (.str x, ρ1)) →
    dcL vs g sYes fk (sC (.bl true)) (l.map D.str) (tru acc) ρ = some (tru (mrg acc l), ρ)
  | [], acc, _, _ => rfl
  | x :: l, acc, hl, h => by
    obtain ⟨ρ1, w, e1, e2, e3, e4⟩ := h x (List.mem_cons_self ..)
    have hl' : acc.length + l.length + 1 ≤ 1000000 := by simpa [Nat.add_assoc] using hl
    have hln : (if x ∈ acc then acc else acc ++ [x]).length + l.length ≤ 1000000 := by
      split
      · omega
      · rw [List.length_append, List.length_singleton]; omega
    have ih := dcL_tru (vs := vs) (g := g) (fk := fk) (ρ := ρ) l (if x ∈ acc then acc else acc ++ [x]) hln fun z hz => h z (List.mem_cons_of_mem _ hz)
    have hz : (tru acc).length < 1000000 := by rw [tru_len]; omega
    rw [← put_tru] at ih
    simp [dcL, e1, e3, e4, hz, e2, ih]
    rfl
theorem dcL_new {α : Type} {vs : List Nat} {g : Gs} {fk f : Ev} {ρ : En} (q : α → D) (k : α → Key) (v : α → D) : ∀ (l pre : List α), ((pre ++ l).map k).Nodup → pre.length + l.length ≤ 1000000 →
    (∀ x ∈ l, ∃ ρ1 w u dk, g (q x) ρ = some ρ1 ∧ mask vs ρ1 = ρ ∧ fk ρ1 = some (w, ρ1) ∧ rel ρ1 w = some (dk, ρ1) ∧ keyD dk = some (k x) ∧ f ρ1 = some (u, ρ1) ∧ rel ρ1 u = some (v x, ρ1)) →
    dcL vs g sYes fk f (l.map q) (pre.map fun a => (k a, v a)) ρ = some ((pre ++ l).map fun a => (k a, v a), ρ)
  | [], pre, _, _, _ => by simp [dcL]
  | x :: l, pre, hn, hl, h => by
    obtain ⟨ρ1, w, u, dk, e1, e2, e3, e4, e5, e6, e7⟩ := h x (List.mem_cons_self ..)
    have hl' : pre.length + l.length + 1 ≤ 1000000 := by simpa [Nat.add_assoc] using hl
    have ih := dcL_new (vs := vs) (g := g) (fk := fk) (f := f) (ρ := ρ) q k v l (pre ++ [x]) (by simpa using hn) (by simp; omega) fun z hz => h z (List.mem_cons_of_mem _ hz)
    have hz : pre.length < 1000000 := by omega
    have hk : k x ∉ (pre.map fun a => (k a, v a)).map (·.1) := fun z => by
      rw [List.map_map] at z
      rw [List.map_append, List.nodup_append] at hn
      exact hn.2.2 _ z _ (List.mem_cons_self ..) rfl
    have pn := putD_new (v := v x) hk
    have e : (pre.map fun a => (k a, v a)) ++ [(k x, v x)] = (pre ++ [x]).map fun a => (k a, v a) := by simp
    rw [e] at pn
    simp only [List.map_cons, dcL, e1, e3, e4, e5, e6, e7, e_sYes, Option.bind_some, if_true, List.length_map, hz, pn, e2, ih, if_pos]
    simp
/-! tables -/
def tb (t : List (Str × List Str)) : List (Key × D) := t.map fun e => ((Sum.inr e.1 : Key), D.dic (tru e.2))
theorem getK_tb {t : List (Str × List Str)} {x : Str} (h : x ∈ t.map (·.1)) : getK (tb t) (.inr x) = some (.dic (tru (look t x))) := by
  unfold tb
  rw [getK_find (fun e : Str × List Str => (Sum.inr e.1 : Key)) (fun e => D.dic (tru e.2))]
  unfold look
  have e : (fun a : Str × List Str => decide ((Sum.inr a.1 : Key) = Sum.inr x)) = fun a => decide (a.1 = x) := by
    funext a; simp
  rw [e]
  cases q : t.find? fun a => decide (a.1 = x) with
  | some z => rfl
  | none =>
    obtain ⟨z, hz, rfl⟩ := List.mem_map.mp h
    have := List.find?_eq_none.mp q z hz
    simp at this
theorem put_tb {t : List (Str × List Str)} {x : Str} {l : List Str} (h : x ∉ t.map (·.1)) : putD (tb t) (.inr x) (.dic (tru l)) = tb (t ++ [(x, l)]) := by
  rw [putD_new]
  · simp [tb]
  · intro q
    obtain ⟨y, hy, e⟩ := List.mem_map.mp q
    obtain ⟨z, hz, rfl⟩ := List.mem_map.mp hy
    cases e
    exact h (List.mem_map.mpr ⟨z, hz, rfl⟩)
/-! a plan's object -/
def numD (p : Pn) : List (Key × D) := p.st.map fun s => ((Sum.inr s.1 : Key), D.tup [.int s.2.1, .int s.2.2])
def parD (p : Pn) : List (Key × D) := p.cm.map fun c => ((Sum.inr c.1 : Key), D.tup (c.2.1.map D.str))
def freD (p : Pn) : List (Key × D) := p.cm.map fun c => ((Sum.inr c.1 : Key), D.tup (c.2.2.map D.str))
def planO (p : Pn) : D := .obj "Plan" [some (.dic (tb (tab (·.2.1) p.cm))), some (.dic (freD p)), some (.dic (tb (tab (·.2.2) p.cm))), some (.dicF (numD p)), some (.dic (parD p)), some (.tup (p.tc.map pairD))]
theorem innerP_ok {kn an : List (Str × List Str)} {e0 e1 e2 e3 e4 e5 e6 e7 e11 : Option Ent} : ∀ (ps : List Str) (a8 a9 : List Str) (e10 : Option Ent) (m : Nat), (∀ p ∈ ps, p ∈ kn.map (·.1) ∧ p ∈ an.map (·.1)) → (∀ x, (look kn x).length ≤ 100 ∧ (look an x).length ≤ 100) → a8.length ≤ m → a9.length ≤ m → m + 100 * ps.length ≤ 10000 →
    ∃ e10', inner (tb kn) (tb an) (ps.map D.str) [e0, e1, e2, e3, e4, e5, e6, e7, some (.o (.dic (tru a8))), some (.o (.dic (tru a9))), e10, e11] =
      some [e0, e1, e2, e3, e4, e5, e6, e7, some (.o (.dic (tru (ps.foldl (fun acc p => mrg acc (look kn p)) a8)))), some (.o (.dic (tru (ps.foldl (fun acc p => mrg acc (look an p)) a9)))), e10', e11]
  | [], a8, a9, e10, m, _, _, _, _, _ => ⟨e10, rfl⟩
  | p :: ps, a8, a9, e10, m, h, hl, h8, h9, hm => by
    obtain ⟨k1, k2⟩ := h p (List.mem_cons_self ..)
    have hl1 := (hl p).1
    have hl2 := (hl p).2
    have l8 := mrg_len (look kn p) a8
    have l9 := mrg_len (look an p) a9
    have hm' : m + 100 * ps.length + 100 ≤ 10000 := by simp at hm; omega
    obtain ⟨e10', ih⟩ := innerP_ok (e0 := e0) (e1 := e1) (e2 := e2) (e3 := e3) (e4 := e4) (e5 := e5) (e6 := e6) (e7 := e7) (e11 := e11) ps (mrg a8 (look kn p)) (mrg a9 (look an p)) (some (.v (.str p))) (m + 100) (fun q hq => h q (List.mem_cons_of_mem _ hq)) hl (by omega) (by omega) (by omega)
    refine ⟨e10', ?_⟩
    have z8 : (tru a8).length + (tru (look kn p)).length ≤ 1000000 := by rw [tru_len, tru_len]; omega
    have z9 : (tru a9).length + (tru (look an p)).length ≤ 1000000 := by rw [tru_len, tru_len]; omega
    simp [inner, upK, getK_tb k1, getK_tb k2, z8, z9, merge_tru, ih]
theorem turnP_ok {c : Com} {kn an : List (Str × List Str)} {e0 e1 e2 e3 e4 e5 e6 e7 e8 e9 e10 : Option Ent} (n1 : c.2.1.Nodup) (n2 : c.2.2.Nodup) (l1 : c.2.1.length ≤ 50) (l2 : c.2.2.length ≤ 50) (hk : ∀ p ∈ c.2.1, p ∈ kn.map (·.1) ∧ p ∈ an.map (·.1)) (hn : c.1 ∉ kn.map (·.1) ∧ c.1 ∉ an.map (·.1)) (hl : ∀ x, (look kn x).length ≤ 100 ∧ (look an x).length ≤ 100) (k1 : kn.length ≤ 1000) (k2 : an.length ≤ 1000) :
    ∃ e5' e6' e7' e8' e9' e10', turn (comD c) [e0, e1, e2, e3, e4, e5, e6, e7, e8, e9, e10, none] (tb kn) (tb an) = some ([e0, e1, e2, e3, e4, e5', e6', e7', e8', e9', e10', none], tb (tabS (·.2.2) kn c), tb (tabS (·.2.1) an c)) := by
  have m1 : mrg [] c.2.1 = c.2.1 := mrg_nil c.2.1 [] (by simpa using n1)
  have m2 : mrg [] c.2.2 = c.2.2 := mrg_nil c.2.2 [] (by simpa using n2)
  obtain ⟨e10', hi⟩ := innerP_ok (kn := kn) (an := an) (e0 := e0) (e1 := e1) (e2 := e2) (e3 := e3) (e4 := e4) (e5 := some (.v (.str c.1))) (e6 := some (.v (.tup (c.2.1.map D.str)))) (e7 := some (.v (.tup (c.2.2.map D.str)))) (e11 := none) c.2.1 c.2.2 c.2.1 e10 50 hk hl l2 l1 (by omega)
  have d1 : dcL [11] (hName 11) sYes (sVar 11) (sC (.bl true)) (c.2.2.map D.str) [] [e0, e1, e2, e3, e4, some (.v (.str c.1)), some (.v (.tup (c.2.1.map D.str))), some (.v (.tup (c.2.2.map D.str))), e8, e9, e10, none] = some (tru c.2.2, [e0, e1, e2, e3, e4, some (.v (.str c.1)), some (.v (.tup (c.2.1.map D.str))), some (.v (.tup (c.2.2.map D.str))), e8, e9, e10, none]) := by
    have := dcL_tru (vs := [11]) (g := hName 11) (fk := sVar 11) (ρ := [e0, e1, e2, e3, e4, some (.v (.str c.1)), some (.v (.tup (c.2.1.map D.str))), some (.v (.tup (c.2.2.map D.str))), e8, e9, e10, none]) c.2.2 [] (by simp; omega) fun x hx => ⟨_, .pl 11, rfl, rfl, by simp, by simp⟩
    rw [m2] at this
    exact this
  have d2 : dcL [10] (hName 10) sYes (sVar 10) (sC (.bl true)) (c.2.1.map D.str) [] [e0, e1, e2, e3, e4, some (.v (.str c.1)), some (.v (.tup (c.2.1.map D.str))), some (.v (.tup (c.2.2.map D.str))), e8, e9, none, none] = some (tru c.2.1, [e0, e1, e2, e3, e4, some (.v (.str c.1)), some (.v (.tup (c.2.1.map D.str))), some (.v (.tup (c.2.2.map D.str))), e8, e9, none, none]) := by
    have := dcL_tru (vs := [10]) (g := hName 10) (fk := sVar 10) (ρ := [e0, e1, e2, e3, e4, some (.v (.str c.1)), some (.v (.tup (c.2.1.map D.str))), some (.v (.tup (c.2.2.map D.str))), e8, e9, none, none]) c.2.1 [] (by simp; omega) fun x hx => ⟨_, .pl 10, rfl, rfl, by simp, by simp⟩
    rw [m1] at this
    exact this
  refine ⟨some (.v (.str c.1)), some (.v (.tup (c.2.1.map D.str))), some (.v (.tup (c.2.2.map D.str))), some (.v (.dic (tru (rowOf (·.2.2) kn c)))), some (.v (.dic (tru (rowOf (·.2.1) an c)))), e10', ?_⟩
  have hz1 : (tb kn).length < 1000000 := by unfold tb; simp; omega
  have hz2 : (tb an).length < 1000000 := by unfold tb; simp; omega
  have p1 := put_tb (l := rowOf (·.2.2) kn c) hn.1
  have p2 := put_tb (l := rowOf (·.2.1) an c) hn.2
  unfold rowOf at *
  simp [turn, h3, ib, comD, d1, d2, tupV, ownV, hi, hz1, hz2, p1, p2, tabS, rowOf]
end Bl
namespace Bl
open PySem PySem.Spec PyProof.Rows L2 Evl
theorem Okc.pre {pre post : List Com} (o : Okc (pre ++ post)) : Okc pre := by
  refine ⟨?_, fun a c b e => ?_⟩
  · have := o.nd
    rw [List.map_append, List.nodup_append] at this
    exact this.1
  · exact o.up a c (b ++ post) (by rw [e]; simp)
theorem look_none {t : List (Str × List Str)} {x : Str} (h : x ∉ t.map (·.1)) : look t x = [] := by
  unfold look
  rw [List.find?_eq_none.mpr]
  · rfl
  · intro z hz e
    rw [decide_eq_true_eq] at e
    exact h (List.mem_map.mpr ⟨z, hz, e⟩)
theorem OkP.fnd {p : Pn} (o : OkP p) : ∀ c ∈ p.cm, c.2.2.Nodup := fun c hc => (List.pairwise_flatMap.mp (o.fr.nodup_iff.mpr o.nd)).1 c hc
theorem OkP.len {p : Pn} (o : OkP p) {pre post : List Com} (e : p.cm = pre ++ post) (x : Str) : (look (tab (·.2.2) pre) x).length ≤ 100 ∧ (look (tab (·.2.1) pre) x).length ≤ 100 := by
  have ok : Okc pre := (e ▸ o.okc : Okc (pre ++ post)).pre
  have sub : ∀ c ∈ pre, c ∈ p.cm := fun c hc => by rw [e]; exact List.mem_append_left _ hc
  by_cases hx : x ∈ pre.map (·.1)
  · obtain ⟨c, hc, rfl⟩ := List.mem_map.mp hx
    constructor
    · have h1 := ok.nodup (·.2.2) (fun d hd => o.fnd d (sub d hd)) hc
      have h2 := nodup_len _ p.names h1 fun s hs => by
        obtain ⟨d, hd, q, _⟩ := (ok.known_iff hx s).mp hs
        exact o.fr.mem_iff.mp (List.mem_flatMap.mpr ⟨d, sub d hd, q⟩)
      have := o.sl
      simp [Pn.names] at h2
      omega
    · have h1 := ok.nodup (·.2.1) (fun d hd => o.pnd d (sub d hd)) hc
      have h2 := nodup_len _ (pre.map (·.1)) h1 fun s hs => ok.ahead_mem hx s hs
      have h3 := o.cl
      have h4 : pre.length ≤ p.cm.length := by rw [e]; simp
      rw [List.length_map] at h2
      exact Nat.le_trans h2 (by omega)
  · rw [look_none (by rw [tab_keys]; exact hx), look_none (by rw [tab_keys]; exact hx)]
    simp
theorem roundsP_ok {p : Pn} (o : OkP p) {e0 e1 e2 e3 e4 : Option Ent} : ∀ (post pre : List Com) (e5 e6 e7 e8 e9 e10 : Option Ent), p.cm = pre ++ post → rounds (post.map comD) [e0, e1, e2, e3, e4, e5, e6, e7, e8, e9, e10, none] (tb (tab (·.2.2) pre)) (tb (tab (·.2.1) pre)) = some (tb (tab (·.2.2) p.cm), tb (tab (·.2.1) p.cm))
  | [], pre, _, _, _, _, _, _, e => by
    rw [List.append_nil] at e
    rw [e]; rfl
  | c :: post, pre, e5, e6, e7, e8, e9, e10, e => by
    have hc : c ∈ p.cm := by rw [e]; simp
    have ok := o.okc
    have nd := ok.nd
    rw [e, List.map_append, List.map_cons, List.nodup_append] at nd
    have hn : c.1 ∉ pre.map (·.1) := fun h => nd.2.2 c.1 h c.1 (List.mem_cons_self ..) rfl
    have hp := ok.up pre c post e
    have sm := o.small
    have l1 := nodup_len c.2.1 (p.cm.map (·.1)) (o.pnd c hc) fun x hx => ok.par_mem hc hx
    have l2 := nodup_len c.2.2 p.names (o.fnd c hc) fun x hx => o.fr.mem_iff.mp (List.mem_flatMap.mpr ⟨c, hc, hx⟩)
    have h1 := o.sl
    have h2 := o.cl
    have h3 : pre.length ≤ p.cm.length := by rw [e]; simp
    simp only [Pn.names, List.length_map] at l1 l2
    have t1 : (tab (·.2.2) pre).length = pre.length := by have := congrArg List.length (tab_keys (·.2.2) pre); simpa using this
    have t2 : (tab (·.2.1) pre).length = pre.length := by have := congrArg List.length (tab_keys (·.2.1) pre); simpa using this
    obtain ⟨e5', e6', e7', e8', e9', e10', ht⟩ := turnP_ok (kn := tab (·.2.2) pre) (an := tab (·.2.1) pre) (e0 := e0) (e1 := e1) (e2 := e2) (e3 := e3) (e4 := e4) (e5 := e5) (e6 := e6) (e7 := e7) (e8 := e8) (e9 := e9) (e10 := e10) (o.pnd c hc) (o.fnd c hc) (by omega) (by omega)
      (fun q hq => ⟨by rw [tab_keys]; exact hp q hq, by rw [tab_keys]; exact hp q hq⟩) ⟨by rw [tab_keys]; exact hn, by rw [tab_keys]; exact hn⟩ (o.len e) (by omega) (by omega)
    have ih := roundsP_ok o (e0 := e0) (e1 := e1) (e2 := e2) (e3 := e3) (e4 := e4) post (pre ++ [c]) e5' e6' e7' e8' e9' e10' (by rw [e]; simp)
    rw [tab_snoc, tab_snoc] at ih
    simp only [tabS] at ht
    simp only [List.map_cons, rounds, ht, Option.bind_some, ih]
theorem keys_nodup {α : Type} {f : α → Str} {l : List α} (h : (l.map f).Nodup) : (l.map fun a => (Sum.inr (f a) : Key)).Nodup := by
  have : (l.map fun a => (Sum.inr (f a) : Key)) = (l.map f).map fun x => (Sum.inr x : Key) := by simp
  rw [this, List.nodup_iff_pairwise_ne, List.pairwise_map]
  exact (List.nodup_iff_pairwise_ne.mp h).imp fun {a b} n e => n (by injection e)
theorem pairs_steps : ∀ l : List Stp, pairsD (l.map stepD) = some (l.map fun s => ((Sum.inr s.1 : Key), D.tup [.int s.2.1, .int s.2.2]))
  | [] => rfl
  | s :: l => by simp [pairsD, stepD, pairs_steps l, keyD]
theorem planP_ok {p : Pn} (o : OkP p) {d : D} (h : m_tupled 6 [d] = some (.val (planD p))) : m_Plan [d] = some (planO p) := by
  have ap : allP (p.st.map stepD) = true := by
    unfold allP
    rw [Bool.and_eq_true]
    constructor
    · have := o.s0
      cases e : p.st with
      | nil => exact absurd e this
      | cons a l => rfl
    · rw [List.all_eq_true]
      intro x hx
      obtain ⟨s, _, rfl⟩ := List.mem_map.mp hx
      rfl
  have mg := mergeD_new (p.st.map fun s => ((Sum.inr s.1 : Key), D.tup [.int s.2.1, .int s.2.2])) [] (by
    rw [List.nil_append, List.map_map]
    exact keys_nodup (f := fun s : Stp => s.1) o.nd)
  have d4 : ∀ e0 e1 e2 e3 e4, dcL [5, 6, 7] h3 sYes (sVar 5) (sVar 6) (p.cm.map comD) [] [e0, e1, e2, e3, e4, none, none, none, none, none, none, none] = some (parD p, [e0, e1, e2, e3, e4, none, none, none, none, none, none, none]) := fun e0 e1 e2 e3 e4 =>
    dcL_new (ρ := [e0, e1, e2, e3, e4, none, none, none, none, none, none, none]) comD (fun c => (Sum.inr c.1 : Key)) (fun c => D.tup (c.2.1.map D.str)) p.cm [] (by rw [List.nil_append]; exact keys_nodup (f := fun c : Com => c.1) o.okc.nd) (by have := o.cl; simp; omega) fun c hc => ⟨_, .pl 5, .pl 6, .str c.1, rfl, rfl, by simp, by simp, rfl, by simp, by simp⟩
  have d5 : ∀ e0 e1 e2 e3 e4, dcL [5, 6, 7] h3 sYes (sVar 5) (sVar 7) (p.cm.map comD) [] [e0, e1, e2, e3, e4, none, none, none, none, none, none, none] = some (freD p, [e0, e1, e2, e3, e4, none, none, none, none, none, none, none]) := fun e0 e1 e2 e3 e4 =>
    dcL_new (ρ := [e0, e1, e2, e3, e4, none, none, none, none, none, none, none]) comD (fun c => (Sum.inr c.1 : Key)) (fun c => D.tup (c.2.2.map D.str)) p.cm [] (by rw [List.nil_append]; exact keys_nodup (f := fun c : Com => c.1) o.okc.nd) (by have := o.cl; simp; omega) fun c hc => ⟨_, .pl 5, .pl 7, .str c.1, rfl, rfl, by simp, by simp, rfl, by simp, by simp⟩
  have rd := roundsP_ok o (e0 := none) (e1 := some (.v d)) (e2 := some (.v (.tup (p.st.map stepD)))) (e3 := some (.v (.tup (p.tc.map pairD)))) (e4 := some (.v (.tup (p.cm.map comD)))) p.cm [] none none none none none none rfl
  have rd : rounds (p.cm.map comD) [none, some (.v d), some (.v (.tup (p.st.map stepD))), some (.v (.tup (p.tc.map pairD))), some (.v (.tup (p.cm.map comD))), none, none, none, none, none, none, none] [] [] = _ := rd
  simp [m_Plan, startP, i1, i2, i4, i5, vR, h, planD, List.replicate, Ent.d, ap, pairs_steps, mg, d4, d5, tupV, rd, planO, numD]
end Bl
namespace Bl
open PySem PySem.Spec PyProof.Rows L2 Evl
/-! the order of texts; what is in a row of texts -/
def ltT (a b : Str) : Bool := decide (a.cps.toList < b.cps.toList)
theorem str_ext {a b : Str} (h : a.cps.toList = b.cps.toList) : a = b := by
  cases a; cases b
  simp at h
  rw [h]
theorem ltT_ord : Ordr ltT where
  irr a := decide_eq_false (List.lt_irrefl _)
  tr a b c h g := decide_eq_true (List.lt_trans (of_decide_eq_true h) (of_decide_eq_true g))
  tot a b n := by
    unfold ltT
    by_cases h : a.cps.toList < b.cps.toList
    · exact .inl (decide_eq_true h)
    · by_cases g : b.cps.toList < a.cps.toList
      · exact .inr (decide_eq_true g)
      · exact absurd (str_ext (List.le_antisymm (List.not_lt.mp g) (List.not_lt.mp h))) n
theorem inV_strs (x : Str) (l : List Str) : inV (.str x) (l.map V.str) = decide (x ∈ l) := by
  unfold inV
  induction l with
  | nil => rfl
  | cons y l ih =>
    rw [List.map_cons, List.any_cons, ih]
    have e : eqV (.str y) (.str x) = decide (x = y) := by
      by_cases h : x = y
      · subst h; simp [eqV]
      · have : ¬ y = x := fun e => h e.symm
        simp [eqV, h, this]
    rw [e]
    by_cases h : x = y <;> simp [h]
theorem inU_strs (x : Str) (l : List Str) : inU (.str x) (.lst (l.map D.str)) = some (.val (.bl (decide (x ∈ l)))) ∧ inU (.str x) (.tup (l.map D.str)) = some (.val (.bl (decide (x ∈ l)))) ∧ ninU (.str x) (.lst (l.map D.str)) = some (.val (.bl (!decide (x ∈ l)))) ∧ ninU (.str x) (.tup (l.map D.str)) = some (.val (.bl (!decide (x ∈ l)))) := by
  have e : (l.map D.str).map toV = l.map V.str := by rw [List.map_map]; rfl
  have f : (l.map D.str).all flatD = true := by rw [List.all_eq_true]; intro d hd; obtain ⟨s, _, rfl⟩ := List.mem_map.mp hd; rfl
  have i := inV_strs x l
  have t : toV (.str x) = .str x := rfl
  have g : flatD (.str x) = true := rfl
  refine ⟨?_, ?_, ?_, ?_⟩ <;> simp only [inU, ninU, inSeq, inStr, e, f, i, t, g, Bool.and_self, if_true, Bool.false_eq_true, if_false, Option.some_or]
/-! numbers of steps -/
def sz (p : Pn) (s : Str) : Int × Int := ((p.st.find? fun e => decide (e.1 = s)).map (·.2)).getD (1, 1)
theorem sz_ok {p : Pn} (o : OkP p) (s : Str) : okF (sz p s) := by
  unfold sz
  cases e : p.st.find? fun e => decide (e.1 = s) with
  | none => exact ⟨by decide, by decide, .inl rfl⟩
  | some z => exact (o.st z (List.mem_of_find?_eq_some e)).2
theorem sz_get {p : Pn} {s : Str} (h : s ∈ p.names) : getK (numD p) (.inr s) = some (.tup [.int (sz p s).1, .int (sz p s).2]) := by
  unfold numD
  rw [getK_find (fun e : Stp => (Sum.inr e.1 : Key)) (fun s => D.tup [.int s.2.1, .int s.2.2])]
  unfold sz
  have e : (fun a : Stp => decide ((Sum.inr a.1 : Key) = Sum.inr s)) = fun a => decide (a.1 = s) := by
    funext a; simp
  rw [e]
  cases q : p.st.find? fun a => decide (a.1 = s) with
  | some z => rfl
  | none =>
    obtain ⟨z, hz, rfl⟩ := List.mem_map.mp h
    have := List.find?_eq_none.mp q z hz
    simp at this
abbrev low (p : Pn) : Str → Str → Bool := lowF ltT (sz p)
theorem low_ord {p : Pn} (o : OkP p) : Ordr (low p) := lowF_ord ltT_ord (sz_ok o)
theorem mulI_small {i j : Int} (h : 0 < j ∧ j ≤ 3) : mulI i j = some (i * j) := mulI_r (by omega)
theorem at0 {x y : D} : atI [x, y] 0 = some x := rfl
theorem at1 {x y : D} : atI [x, y] 1 = some y := rfl
theorem less_ok {x y : Int × Int} (hx : okF x) (hy : okF y) : m_is_less [.tup [.int x.1, .int x.2], .tup [.int y.1, .int y.2]] = some (.val (.bl (lessF x y))) := by
  have m1 := mulI_small (i := x.1) hy.pos
  have m2 := mulI_small (i := y.1) hx.pos
  simp [m_is_less, b_is_less, List.replicate, Ent.d, at0, at1, m1, m2, lessF]
theorem worth_ok {p : Pn} {s : Str} (h : s ∈ p.names) : m_Plan_worth [planO p, .str s] = some (.val (.tup [.int (sz p s).1, .int (sz p s).2])) := by
  simp [m_Plan_worth, b_Plan_worth, List.replicate, Ent.d, planO, sz_get h]
theorem eqO_fr (x y : Int × Int) : eqO (.tup [.int x.1, .int x.2]) (.tup [.int y.1, .int y.2]) = some (.val (.bl (decide (x = y)))) := by
  have py : ∀ x : Int × Int, Py 1 (.tup [.int x.1, .int x.2]) (.tuple [.int x.1, .int x.2]) := fun x => py_tup (f := D.int) (g := PyData.int) (n := 0) [x.1, x.2] fun i _ => py_int i
  rw [eqO_py (py x) (py y) (by decide) (by decide)]
  have e : PyData.eqv (.tuple [.int x.1, .int x.2]) (.tuple [.int y.1, .int y.2]) = decide (x = y) := by
    have : PyData.eqv (.tuple [.int x.1, .int x.2]) (.tuple [.int y.1, .int y.2]) = ((x.1 == y.1) && ((x.2 == y.2) && true)) := by simp [PyData.eqv, PyData.eqvAll]
    rw [this]
    obtain ⟨a, b⟩ := x
    obtain ⟨c, d⟩ := y
    by_cases h1 : a = c <;> by_cases h2 : b = d <;> simp [h1, h2]
  rw [e]
theorem lower_ok {p : Pn} (o : OkP p) {s t : Str} (hs : s ∈ p.names) (ht : t ∈ p.names) : m_Plan_is_lower [planO p, .str s, .str t] = some (.val (.bl (low p s t))) := by
  have w1 := worth_ok hs
  have w2 := worth_ok ht
  have l := less_ok (sz_ok o s) (sz_ok o t)
  have e := eqO_fr (sz p s) (sz p t)
  have c : ∀ c, isCls c (planO p) = decide ("Plan" = c) := fun c => rfl
  simp [m_Plan_is_lower, b_Plan_is_lower, List.replicate, Ent.d, c, w1, w2, l, e]
  cases h : lessF (sz p s) (sz p t) with
  | true => simp [low, lowF, h]
  | false =>
    by_cases g : sz p s = sz p t
    · simp [low, lowF, g, lessF_irr, ltT]
    · simp [low, lowF, h, g]
end Bl
namespace Bl
open PySem PySem.Spec PyProof.Rows L2 Evl
/-! from the lowest to the highest -/
theorem clsP (p : Pn) (c : Str) : isCls c (planO p) = decide ("Plan" = c) := rfl
theorem cut1 {x : D} {ds : List D} : cutD (x :: ds) (some 1) none = ds := by
  have := cut_from (ds := x :: ds) (k := 0)
  simpa using this
theorem low_row {p : Pn} (o : OkP p) {e1 e2 e3 : Option Ent} : ∀ (xs : List Str) (x : Str) (e5 : Option Ent), (∀ y ∈ x :: xs, y ∈ p.names) →
    ∃ e5', forL (hName 5) (sSet 4 (sIf (sB (sMeth "Plan" m_Plan_is_lower (sVar 0) (sCons (sVar 5) (sCons (sVar 4) sNil)))) (sVar 5) (sVar 4))) (xs.map D.str) [some (.v (planO p)), e1, e2, e3, some (.v (.str x)), e5] = some (.nx [some (.v (planO p)), e1, e2, e3, some (.v (.str (lowest (low p) x xs))), e5'])
  | [], x, e5, _ => ⟨e5, rfl⟩
  | y :: xs, x, e5, h => by
    have hx := h x (List.mem_cons_self ..)
    have hy := h y (by simp)
    have hl := lower_ok o hy hx
    obtain ⟨e5', ih⟩ := low_row o (e1 := e1) (e2 := e2) (e3 := e3) xs (if low p y x = true then y else x) (some (.v (.str y))) fun z hz => by
      rcases List.mem_cons.mp hz with q | q
      · rw [q]; split
        · exact hy
        · exact hx
      · exact h z (by simp [q])
    refine ⟨e5', ?_⟩
    rw [List.map_cons, forL]
    have hs : lowest (low p) x (y :: xs) = lowest (low p) (if low p y x = true then y else x) xs := rfl
    rw [hs, ← ih]
    by_cases g : low p y x = true
    · simp [Ent.d, clsP, hl, g]
    · simp only [Bool.not_eq_true] at g
      simp [Ent.d, clsP, hl, g]
theorem idx_erase {l : List Str} {x : Str} (h : x ∈ l) : ∃ j, l.idxOf? x = some j ∧ l.eraseIdx j = l.erase x := by
  induction l with
  | nil => cases h
  | cons y l ih =>
    by_cases q : y = x
    · subst q
      exact ⟨0, by simp [List.idxOf?_cons], by simp⟩
    · have hx : x ∈ l := (List.mem_cons.mp h).resolve_left (Ne.symm q)
      obtain ⟨j, h1, h2⟩ := ih hx
      exact ⟨j + 1, by simp [List.idxOf?_cons, q, h1], by simp [List.erase_cons, q, h2]⟩
theorem raise_loop {p : Pn} (o : OkP p) {e1 : Option Ent} : ∀ (n : Nat) (left found : List Str) (e4 e5 : Option Ent), (∀ y ∈ left, y ∈ p.names) → left.length < n → found.length + left.length ≤ 1000 →
    ∃ e4' e5', whL (sB (sOp (iCmp fun i j => decide (j < i)) (sUn lenD (sVar 3)) (sC (.int 0)))) (sSeq (sSet 4 (sOp ixSeq (sVar 3) (sC (.int 0))))
      (sSeq (sFor (cRel (sSlice (sVar 3) (sPart (sC (.int 1))) sNoPart)) (hName 5) (sSet 4 (sIf (sB (sMeth "Plan" m_Plan_is_lower (sVar 0) (sCons (sVar 5) (sCons (sVar 4) sNil)))) (sVar 5) (sVar 4))))
      (sSeq (sExpr (sApp 2 (sVar 4)))
      (sExpr (sRemove 3 (sVar 4)))))) n [some (.v (planO p)), e1, some (.o (.lst (found.map D.str))), some (.o (.lst (left.map D.str))), e4, e5] =
      some (.nx [some (.v (planO p)), e1, some (.o (.lst ((found ++ selSort (low p) left.length left).map D.str))), some (.o (.lst [])), e4', e5'])
  | 0, left, found, e4, e5, _, h, _ => absurd h (Nat.not_lt_zero _)
  | n + 1, [], found, e4, e5, _, h, _ => ⟨e4, e5, by simp [whL, Ent.d, selSort]⟩
  | n + 1, x :: xs, found, e4, e5, hm, h, hl => by
    obtain ⟨e5', hr⟩ := low_row o (e1 := e1) (e2 := some (.o (.lst (found.map D.str)))) (e3 := some (.o (.lst ((x :: xs).map D.str)))) xs x e5 hm
    have mem := lowest_mem (low p) xs x
    obtain ⟨j, j1, j2⟩ := idx_erase mem
    have hlen := List.length_erase_of_mem mem
    obtain ⟨e4', e5'', ih⟩ := raise_loop o (e1 := e1) n ((x :: xs).erase (lowest (low p) x xs)) (found ++ [lowest (low p) x xs]) (some (.v (.str (lowest (low p) x xs)))) e5' (fun y hy => hm y (List.mem_of_mem_erase hy)) (by rw [hlen]; simp at h ⊢; omega) (by rw [hlen]; simp at hl ⊢; omega)
    refine ⟨e4', e5'', ?_⟩
    have hz : found.length < 1000000 := by simp at hl; omega
    have hs : found ++ selSort (low p) (x :: xs).length (x :: xs) = found ++ [lowest (low p) x xs] ++ selSort (low p) ((x :: xs).erase (lowest (low p) x xs)).length ((x :: xs).erase (lowest (low p) x xs)) := by
      rw [hlen]; simp [selSort]
    rw [hs, ← ih, whL]
    have c0 : atI (D.str x :: xs.map D.str) 0 = some (.str x) := by simp [atI, ixN]
    have st := strsD_map (x :: xs)
    simp only [List.map_cons] at st hr
    simp [Ent.d, c0, cut1, hr, hz, st, j1, j2]
theorem selSort_mem {p : Pn} (o : OkP p) {l : List Str} (h : l.Nodup) : (selSort (low p) l.length l).Perm l ∧ (selSort (low p) l.length l).Pairwise fun a b => low p a b = true := selSort_ok (low_ord o) l.length l (Nat.le_refl _) h
theorem txtKs_tru : ∀ l : List Str, txtKs (tru l) = some l
  | [] => rfl
  | x :: l => by
    have := txtKs_tru l
    unfold tru at *
    simp [txtKs, this]
/-- the row that rises with just these steps -/
def raisedOf (p : Pn) (l : List Str) : List Str := selSort (low p) l.length (sortS l)
theorem sortS_perm (l : List Str) : (sortS l).Perm l := List.mergeSort_perm l leS
theorem raised_ok {p : Pn} (o : OkP p) {l : List Str} (hm : ∀ y ∈ l, y ∈ p.names) (hl : l.length < 64) : m_Plan_raised [planO p, .dic (tru l)] = some (.own (.lst ((raisedOf p l).map D.str))) := by
  have pm := sortS_perm l
  have len := pm.length_eq
  obtain ⟨e4, e5, h⟩ := raise_loop o (e1 := some (.v (.dic (tru l)))) 1000 (sortS l) [] none none (fun y hy => hm y (pm.mem_iff.mp hy)) (by omega) (by simp; omega)
  rw [List.nil_append, len] at h
  refine runP_of (ρ := [some (.v (planO p)), some (.v (.dic (tru l))), none, some (.o (.lst [])), e4, e5]) ((seq_nx (ρ' := [some (.v (planO p)), some (.v (.dic (tru l))), some (.o (.lst [])), some (.o (.lst ((sortS l).map D.str))), none, none]) ?_).trans ((seq_nx h).trans ?_))
  · simp [List.replicate, Ent.d, txtKs_tru, hl]
  · simp [raisedOf]
theorem raisedOf_spec {p : Pn} (o : OkP p) {l : List Str} (h : l.Nodup) : (∀ x, x ∈ raisedOf p l ↔ x ∈ l) ∧ (raisedOf p l).Pairwise fun a b => low p a b = true := by
  have pm := sortS_perm l
  have := selSort_mem o (pm.nodup_iff.mpr h)
  rw [pm.length_eq] at this
  exact ⟨fun x => (this.1.trans pm).mem_iff, this.2⟩
theorem knownP_mem {p : Pn} (o : OkP p) {c : Str} (hc : c ∈ p.labels) : (∀ s ∈ knownOf p.cm c, s ∈ p.names) ∧ (knownOf p.cm c).Nodup ∧ (knownOf p.cm c).length ≤ 9 := by
  obtain ⟨d, hd, rfl⟩ := List.mem_map.mp hc
  have h1 : ∀ s ∈ knownOf p.cm d.1, s ∈ p.names := fun s hs => by
    obtain ⟨e, he, q, _⟩ := (o.okc.known_iff hc s).mp hs
    exact o.fr.mem_iff.mp (List.mem_flatMap.mpr ⟨e, he, q⟩)
  have h2 := o.okc.nodup (·.2.2) o.fnd hd
  refine ⟨h1, h2, ?_⟩
  have h3 := nodup_len _ p.names h2 h1
  have h4 := o.sl
  rw [show p.names.length = p.st.length from List.length_map ..] at h3
  exact Nat.le_trans h3 h4
theorem getK_tab {p : Pn} {f : Com → List Str} {c : Str} (hc : c ∈ p.labels) : getK (tb (tab f p.cm)) (.inr c) = some (.dic (tru (look (tab f p.cm) c))) := getK_tb (by rw [tab_keys]; exact hc)
theorem planKnown_ok {p : Pn} (o : OkP p) {c : Str} (hc : c ∈ p.labels) : m_Plan_known [planO p, .str c] = some (.own (.lst ((raisedOf p (knownOf p.cm c)).map D.str))) := by
  obtain ⟨h1, h2, h3⟩ := knownP_mem o hc
  have r := raised_ok o h1 (by omega)
  have g := getK_tab (f := (·.2.2)) hc
  have f2 : fldO "Plan" 2 (planO p) = some (.val (.dic (tb (tab (·.2.2) p.cm)))) := by simp [planO]
  simp [-e_fldO_1, m_Plan_known, b_Plan_known, List.replicate, Ent.d, clsP, f2, g, r]
theorem look_ok {p : Pn} {l : List Str} (h : ∀ x ∈ l, x ∈ p.labels) : m_Plan_look_commits [planO p, .lst (l.map D.str)] = some (.val .non) ∧ m_Plan_look_commits [planO p, .tup (l.map D.str)] = some (.val .non) := by
  have f4 : fldO "Plan" 4 (planO p) = some (.val (.dic (parD p))) := by simp [planO]
  have g : ∀ x ∈ l, (getK (parD p) (.inr x)).isSome = true := fun x hx => by
    unfold parD
    rw [getK_find (fun c : Com => (Sum.inr c.1 : Key)) (fun c => D.tup (c.2.1.map D.str)), Option.isSome_map]
    obtain ⟨c, hc, e⟩ := List.mem_map.mp (h x hx)
    rw [List.find?_isSome]
    exact ⟨c, hc, by simp [e]⟩
  have key : ∀ (l : List Str), (∀ x ∈ l, (getK (parD p) (.inr x)).isSome = true) → ∀ e1 e2, ∃ e2', forL (hName 2) (sIfS (sB (sOp (inDic true) (sVar 2) (sUn (fldO "Plan" 4) (sVar 0)))) sNever sNext) (l.map D.str) [some (.v (planO p)), e1, e2] = some (.nx [some (.v (planO p)), e1, e2']) := fun l => by
    induction l with
    | nil => exact fun _ e1 e2 => ⟨e2, rfl⟩
    | cons x l ih =>
      intro h e1 e2
      obtain ⟨e2', ih⟩ := ih (fun y hy => h y (List.mem_cons_of_mem _ hy)) e1 (some (.v (.str x)))
      have gx := h x (List.mem_cons_self ..)
      have gn : getK (parD p) (.inr x) ≠ none := fun q => by rw [q] at gx; cases gx
      exact ⟨e2', by simp [-e_fldO_1, forL, Ent.d, f4, gn, ih]⟩
  constructor
  · obtain ⟨e2, k⟩ := key l g (some (.v (.lst (l.map D.str)))) none
    simp [m_Plan_look_commits, b_Plan_look_commits, List.replicate, Ent.d, k]
  · obtain ⟨e2, k⟩ := key l g (some (.v (.tup (l.map D.str)))) none
    simp [m_Plan_look_commits, b_Plan_look_commits, List.replicate, Ent.d, k]
end Bl
/-! What all laws share: equal things, forms of a plan, cells and boxes. -/
namespace Bl
open PySem PySem.Spec PyProof.Rows L2 Evl
def Form (d : D) (p : Pn) : Prop := m_tupled 6 [d] = some (.val (planD p))
theorem allP_strs (l : List Str) : allP (l.map D.str) = false := by
  cases l with
  | nil => rfl
  | cons x l => simp [allP, isPr]
theorem anyP_strs (l : List Str) : (l.map D.str).any isPr = false := by
  induction l with
  | nil => rfl
  | cons x l ih => simp [isPr]
theorem zip_strs : ∀ (a b : List Str), List.zipWith (fun x y => D.tup [x, y]) (a.map D.str) (b.map D.str) = (a.zip b).map pairD
  | [], _ => by simp
  | _ :: _, [] => by simp
  | x :: a, y :: b => by simp [zip_strs a b, pairD]
theorem cut_tail (l : List Str) : cutD (l.map D.str) (some 1) none = l.tail.map D.str := by
  have := cut_from (ds := l.map D.str) (k := 0)
  cases l with
  | nil => exact this
  | cons x l => simpa using this
theorem bools_map {α : Type} (B : α → Bool) : ∀ l : List α, bools (l.map fun a => D.bl (B a)) = some (l.map B)
  | [] => rfl
  | a :: l => by simp [bools, bools_map B l]
def saysT : Option Opd → Bool
  | some (.val (.bl true)) => true
  | _ => false
theorem saysT_ok {x : Option Opd} (h : saysT x = true) : x = some (.val (.bl true)) := by
  unfold saysT at h
  split at h
  · rfl
  · cases h
def saysF : Option Opd → Bool
  | some (.val (.bl false)) => true
  | _ => false
theorem saysF_ok {x : Option Opd} (h : saysF x = true) : x = some (.val (.bl false)) := by
  unfold saysF at h
  split at h
  · rfl
  · cases h
theorem form_d {p : Pn} (o : OkP p) : Form (planD p) p := (tupled_plan o.small).1
theorem form_l {p : Pn} (o : OkP p) : Form (planL p) p := (tupled_plan o.small).2
theorem labels_row {p : Pn} (o : OkP p) {vs : List Nat} {i : Nat} {ρ : En} (h : ∀ d, ∃ ρ1, hName i d ρ = some ρ1 ∧ mask [i] ρ1 = ρ ∧ ρ1[i]? = some (some (.v d))) : lcL [i] (hName i) sYes (sOp ixSeq (sVar i) (sC (.int 0))) (p.cm.map comD) [] ρ = some (p.labels.map D.str, ρ) := by
  refine lcL_mapT comD (·.1) D.str p.cm (by have := o.cl; omega) fun c hc => ?_
  obtain ⟨ρ1, h1, h2, h3⟩ := h (comD c)
  refine ⟨ρ1, .val (.str c.1), h1, h2, ?_, rfl⟩
  have a0 : ∀ x y z : D, atI [x, y, z] 0 = some x := fun _ _ _ => rfl
  simp [h3, Ent.d, comD, a0]
theorem labels_len {p : Pn} (o : OkP p) : p.labels.length ≤ 9 := by
  have := o.cl
  rw [show p.labels.length = p.cm.length from List.length_map ..]
  exact this
theorem labels_ne {p : Pn} (o : OkP p) : p.labels ≠ [] := fun h => o.c0 (List.map_eq_nil_iff.mp h)
theorem ends_of {l : List Str} (h : l ≠ []) : ∃ x0 xl, x0 ∈ l ∧ xl ∈ l ∧ atI (l.map D.str) 0 = some (.str x0) ∧ atI (l.map D.str) (-1) = some (.str xl) := by
  obtain ⟨q, xl, e⟩ : ∃ q x, l = q ++ [x] := ⟨l.dropLast, l.getLast h, (List.dropLast_concat_getLast h).symm⟩
  cases l with
  | nil => exact absurd rfl h
  | cons x0 l =>
    refine ⟨x0, xl, by simp, by rw [e]; simp, by simp [atI, ixN], ?_⟩
    rw [e, List.map_append]
    exact last_ix
theorem labels_gs {p : Pn} (o : OkP p) : ∀ x ∈ p.labels, gs x := fun x hx => by
  obtain ⟨c, hc, rfl⟩ := List.mem_map.mp hx
  exact pool2_gs _ (o.lab c hc)
inductive Sm : Nat → D → Prop
  | non (n : Nat) : Sm (n + 1) .non
  | bl (n : Nat) (b : Bool) : Sm (n + 1) (.bl b)
  | int (n : Nat) (i : Int) : Sm (n + 1) (.int i)
  | str (n : Nat) (x : Str) : gs x → Sm (n + 1) (.str x)
  | lst (n : Nat) (ds : List D) : ds.length ≤ 1000 → ds.any isPr = false → (∀ d ∈ ds, Sm n d) → Sm (n + 1) (.lst ds)
  | tup (n : Nat) (ds : List D) : ds.length ≤ 1000 → ds.any isPr = false → (∀ d ∈ ds, Sm n d) → Sm (n + 1) (.tup ds)
theorem zip_self (ds : List D) : List.zipWith (fun x y => D.tup [x, y]) ds ds = ds.map fun d => D.tup [d, d] := by
  induction ds with
  | nil => rfl
  | cons d ds ih => simp [ih]
theorem sm_strs {n : Nat} {l : List Str} (hl : l.length ≤ 1000) (h : ∀ x ∈ l, gs x) : Sm (n + 2) (.lst (l.map D.str)) := .lst _ _ (by simpa using hl) (anyP_strs l) fun d hd => by
  obtain ⟨x, hx, rfl⟩ := List.mem_map.mp hd
  exact .str _ _ (h x hx)
theorem sm_bls {n : Nat} {l : List Bool} (hl : l.length ≤ 1000) : Sm (n + 2) (.lst (l.map D.bl)) := .lst _ _ (by simpa using hl) (by
  induction l with
  | nil => rfl
  | cons b l ih => simp [isPr]) fun d hd => by
  obtain ⟨x, hx, rfl⟩ := List.mem_map.mp hd
  exact .bl _ _
theorem Okc.before {cm : List Com} (o : Okc cm) : ∀ (i : Nat) (c : Com), cm[i]? = some c → ∀ y ∈ ahead cm c.1, ∃ j d, j < i ∧ cm[j]? = some d ∧ d.1 = y := fun i => by
  induction i using Nat.strongRecOn with
  | _ i ih =>
    intro c hc y hy
    have hm := List.mem_of_getElem? hc
    rcases (o.eqn _ hm).mp hy with q | ⟨p, hp, q⟩
    · exact o.earlier hc q
    · obtain ⟨j, d, hj, h1, rfl⟩ := o.earlier hc hp
      obtain ⟨k, e, hk, h2, h3⟩ := ih j hj d h1 y q
      exact ⟨k, e, by omega, h2, h3⟩
theorem Okc.irr {cm : List Com} (o : Okc cm) {x : Str} (hx : x ∈ cm.map (·.1)) : x ∉ ahead cm x := fun h => by
  obtain ⟨i, c, hc, rfl⟩ := mem_at hx
  obtain ⟨j, d, hj, h1, h2⟩ := o.before i c hc _ h
  have e := o.same (List.mem_of_getElem? h1) (List.mem_of_getElem? hc) h2
  subst e
  have nd := o.nd
  have hi := (List.getElem?_eq_some_iff.mp hc).1
  have g1 : (cm.map (·.1))[i]? = some d.1 := by rw [List.getElem?_map, hc]; rfl
  have g2 : (cm.map (·.1))[j]? = some d.1 := by rw [List.getElem?_map, h1]; rfl
  have := (List.getElem?_inj (by simpa using hi) nd).mp (g1.trans g2.symm)
  omega
theorem neO_str {a b : Str} (ha : gs a) (hb : gs b) : neO (.str a) (.str b) = some (.val (.bl (!decide (a = b)))) := by
  rw [neO_py (py_str ha) (py_str hb) (by decide) (by decide)]
  have e : (PyData.str a).eqv (PyData.str b) = decide (a = b) := by
    show (a == b) = decide (a = b)
    by_cases z : a = b <;> simp [z]
  rw [e]
theorem names_gs {p : Pn} (o : OkP p) : ∀ x ∈ p.names, gs x := fun x hx => by
  obtain ⟨s, hs, rfl⟩ := List.mem_map.mp hx
  exact pool1_gs _ (o.st s hs).1
theorem known_gs {p : Pn} (o : OkP p) {c : Str} (hc : c ∈ p.labels) : (∀ x ∈ raisedOf p (knownOf p.cm c), gs x) ∧ (raisedOf p (knownOf p.cm c)).length ≤ 9 := by
  obtain ⟨h1, h2, h3⟩ := knownP_mem o hc
  have q := raisedOf_spec o h2
  refine ⟨fun x hx => names_gs o x (h1 x ((q.1 x).mp hx)), ?_⟩
  have pm := sortS_perm (knownOf p.cm c)
  have s := selSort_mem o (pm.nodup_iff.mpr h2)
  rw [pm.length_eq] at s
  have := s.1.length_eq
  unfold raisedOf
  rw [this, pm.length_eq]
  exact h3
theorem py_l2 {n : Nat} {x y : D} {p q : PyData} (hx : Py n x p) (hy : Py n y q) : Py (n + 1) (.lst [x, y]) (.list [p, q]) := py_lst (α := D × PyData) (f := Prod.fst) (g := Prod.snd) [(x, p), (y, q)] (by simp [hx, hy])
theorem py_l3 {n : Nat} {x y z : D} {p q r : PyData} (hx : Py n x p) (hy : Py n y q) (hz : Py n z r) : Py (n + 1) (.lst [x, y, z]) (.list [p, q, r]) := py_lst (α := D × PyData) (f := Prod.fst) (g := Prod.snd) [(x, p), (y, q), (z, r)] (by simp [hx, hy, hz])
theorem par_in {p : Pn} (o : OkP p) {c : Com} (hc : c ∈ p.cm) : (∀ x ∈ c.2.1, x ∈ p.labels) ∧ (∀ x ∈ c.2.2, x ∈ p.names) := ⟨fun x hx => o.okc.par_mem hc hx, fun x hx => o.fr.mem_iff.mp (List.mem_flatMap.mpr ⟨c, hc, hx⟩)⟩
theorem py_planL {p : Pn} (o : OkP p) : ∃ q, Py 4 (planL p) q := by
  have g1 := names_gs o
  have g2 := labels_gs o
  have hs := py_lst (f := stepL) (g := fun s => .list [.str s.1, .list [.int s.2.1, .int s.2.2]]) (n := 2) p.st fun s hs => py_l2 ((py_str (pool1_gs _ (o.st s hs).1)).mono (by decide)) (py_l2 (py_int _) (py_int _))
  have ht := py_lst (f := pairL) (g := fun s => .list [.str s.1, .str s.2]) (n := 2) p.tc fun s hs => (py_l2 (py_str (g1 _ (o.tc s hs).1)) (py_str (g1 _ (o.tc s hs).2))).mono (by decide)
  have hc := py_lst (f := comL) (g := fun c => .list [.str c.1, .list (c.2.1.map .str), .list (c.2.2.map .str)]) (n := 2) p.cm fun c hc =>
    py_l3 ((py_str (pool2_gs _ (o.lab c hc))).mono (by decide)) (py_lst (g := PyData.str) (n := 0) c.2.1 fun x hx => py_str (g2 x ((par_in o hc).1 x hx))) (py_lst (g := PyData.str) (n := 0) c.2.2 fun x hx => py_str (g1 x ((par_in o hc).2 x hx)))
  exact ⟨_, py_l3 hs ht hc⟩
theorem filt_map {α β : Type} (P : α → Bool) (f : α → β) : ∀ l : List α, l.filterMap (fun a => if P a = true then some (f a) else none) = (l.filter P).map f
  | [] => rfl
  | a :: l => by
    have := filt_map P f l
    by_cases h : P a = true <;> simp [h, this]
theorem enum_at {ds : List D} {j : Nat} {d : D} (h : (enumF 0 ds)[j]? = some d) : ∃ x, ds[j]? = some x ∧ d = .tup [.int (j : Nat), x] := by
  obtain ⟨x, h1, h2⟩ := enum_get h
  exact ⟨x, h1, by simpa using h2⟩
theorem cells_ok (ns : List Int) (hl : ns.length ≤ 63) : ∃ cs : List Int, m__law_cells [.scr ns, .int 2] = some (.own (.lst (cs.map D.int))) ∧ cs ≠ [] ∧ cs.length ≤ 2 := by
  have c1 : cutD (ns.map D.int) none (some 2) = (ns.map D.int).take 2 := by
    unfold cutD
    have h1 : HT.sIx (ns.map D.int).length 0 none = 0 := rfl
    have h2 : HT.sIx (ns.map D.int).length (ns.map D.int).length (some 2) = min 2 (ns.map D.int).length := by
      simp only [HT.sIx]
      split <;> omega
    rw [h1, h2]
    simp only [List.drop_zero, Nat.sub_zero]
    by_cases h : 2 ≤ (ns.map D.int).length
    · rw [Nat.min_eq_left h]
    · rw [Nat.min_eq_right (by omega), List.take_length, List.take_of_length_le (by omega)]
  have c2 : ns.length ≤ 2 → cutD (ns.map D.int) (some 2) (some 63) = [] := fun h => by
    unfold cutD
    have h1 : HT.sIx (ns.map D.int).length 0 (some 2) = min 2 (ns.map D.int).length := by
      simp only [HT.sIx]
      split <;> omega
    rw [h1]
    rw [List.drop_eq_nil_of_le (by simp; omega), List.take_nil]
  match ns, hl, c1, c2 with
  | [], _, c1, c2 =>
    have c1 : cutD [] none (some 2) = [] := c1
    have c2 : cutD [] (some 2) (some 63) = [] := c2 (by simp)
    exact ⟨[0], by simp [m__law_cells, b__law_cells, List.replicate, Ent.d, c1, c2, enumF, forL], by simp, by simp⟩
  | [x], _, c1, c2 =>
    have c1 : cutD [D.int x] none (some 2) = [.int x] := c1
    have c2 : cutD [D.int x] (some 2) (some 63) = [] := c2 (by simp)
    exact ⟨[x], by simp [m__law_cells, b__law_cells, List.replicate, Ent.d, c1, c2, enumF, forL], by simp, by simp⟩
  | x :: y :: ns, hl, c1, _ =>
    have c1 : cutD (D.int x :: D.int y :: ns.map D.int) none (some 2) = [.int x, .int y] := c1
    have inn : ∀ d ∈ cutD ((x :: y :: ns).map D.int) (some 2) (some 63), ∃ c, d = .int c := fun d hd => by
      unfold cutD at hd
      have := List.mem_of_mem_drop (List.mem_of_mem_take hd)
      obtain ⟨c, _, rfl⟩ := List.mem_map.mp this
      exact ⟨c, rfl⟩
    have len : (cutD ((x :: y :: ns).map D.int) (some 2) (some 63)).length ≤ 63 := by
      unfold cutD
      rw [List.length_take, List.length_drop, List.length_map]
      omega
    generalize hrest : cutD ((x :: y :: ns).map D.int) (some 2) (some 63) = rest at *
    obtain ⟨ρ', e, u0, u1, e3, e4, e5, rfl⟩ := forL_some (g := hTup 2 (hCons (hName 3) (hCons (hName 4) hNil))) (f := sSeq (sSet 5 (sOp (iOp modI) (sUn intD (sVar 3)) (sVar 1)))
        (sSetIx 2 (sVar 5) (sOp addU (sOp ixSeq (sVar 2) (sVar 5)) (sOp mulU (sVar 4) (sOp addU (sVar 3) (sC (.int 2)))))))
      (fun _ ρ => ∃ (u0 u1 : Int) (e3 e4 e5 : Option Ent), ρ = [some (.v (.scr (x :: y :: ns))), some (.v (.int 2)), some (.o (.lst [.int u0, .int u1])), e3, e4, e5]) (enumF 0 rest) 0 [some (.v (.scr (x :: y :: ns))), some (.v (.int 2)), some (.o (.lst [.int x, .int y])), none, none, none] ⟨x, y, none, none, none, rfl⟩ fun j d ρ hd hP => by
        obtain ⟨u0, u1, e3, e4, e5, rfl⟩ := hP
        obtain ⟨z, hz, rfl⟩ := enum_at hd
        obtain ⟨c, rfl⟩ := inn z (List.mem_of_getElem? hz)
        have hj : j < rest.length := (List.getElem?_eq_some_iff.mp hz).1
        have m1 : modI (j : Int) 2 = some ((j : Int) % 2) := by simp [modI]
        have m2 : mulI c ((j : Int) + 2) = some (c * ((j : Int) + 2)) := mulI_r (by omega)
        rcases (by omega : (j : Int) % 2 = 0 ∨ (j : Int) % 2 = 1) with q | q
        · rw [q] at m1
          exact ⟨_, [some (.v (.scr (x :: y :: ns))), some (.v (.int 2)), some (.o (.lst [.int (u0 + c * ((j : Int) + 2)), .int u1])), some (.v (.int j)), some (.v (.int c)), some (.v (.int 0))], rfl, by simp [Ent.d, m1, m2, at0, ixN], _, _, _, _, _, rfl⟩
        · rw [q] at m1
          exact ⟨_, [some (.v (.scr (x :: y :: ns))), some (.v (.int 2)), some (.o (.lst [.int u0, .int (u1 + c * ((j : Int) + 2))])), some (.v (.int j)), some (.v (.int c)), some (.v (.int 1))], rfl, by simp [Ent.d, m1, m2, at1, ixN], _, _, _, _, _, rfl⟩
    refine ⟨[u0, u1], runP_of (ρ := [some (.v (.scr (x :: y :: ns))), some (.v (.int 2)), none, e3, e4, e5]) ((seq_nx (ρ' := [some (.v (.scr (x :: y :: ns))), some (.v (.int 2)), some (.o (.lst [.int x, .int y])), none, none, none]) ?_).trans ((seq_nx (ρ' := [some (.v (.scr (x :: y :: ns))), some (.v (.int 2)), some (.o (.lst [.int u0, .int u1])), e3, e4, e5]) ?_).trans ?_)), by simp, by simp⟩
    · simp [List.replicate, Ent.d, c1]
    · rw [e_sFor]
      simp only [e_cEnum, e_sCons, e_sSlice, e_sPart, e_sVar, e_sC, e_sNil]
      simp [-List.map_cons, Ent.d, hrest, e]
    · simp
theorem box_ok {cs : List Int} {k : Nat} (hk : k < cs.length) (h2 : cs.length ≤ 2) : ∃ b, m__law_box [.lst (cs.map D.int), .int (k : Int)] = some (.own b) ∧ Box 0 b := by
  obtain ⟨c, hc⟩ : ∃ c, cs[k]? = some c := ⟨cs[k], List.getElem?_eq_getElem hk⟩
  have at_ : atI (cs.map D.int) (k : Int) = some (.int c) := by
    have : (k : Int) < (cs.length : Int) := by omega
    simp [atI, ixN, this, hc]
  have pw : powI 10 18 = some 1000000000000000000 := by decide
  have md : modI c 2305843009213693951 = some (c % 2305843009213693951) := by simp [modI]
  have m1 : mulI 39373 (k : Int) = some (39373 * (k : Int)) := mulI_l (by decide)
  have m2 : ∀ b : Bool, mulI (if c < 0 then -c else c) (if b = true then 1 else 0) = some ((if c < 0 then -c else c) * (if b = true then 1 else 0)) := fun b => mulI_r (by cases b <;> decide)
  have hk' : (k : Int) < (cs.length : Int) := by omega
  refine ⟨.lst [.int ((if c < 0 then -c else c) * (if decide (1000000000000000000 ≤ (if c < 0 then -c else c)) = true then 1 else 0)), .int (c % 2305843009213693951 + 39373 * (k : Int) + 173), .int 0], ?_, _, _, _, rfl, ?_, by decide, by decide⟩
  · have m3 := m2 (decide (1000000000000000000 ≤ (if c < 0 then -c else c)))
    simp only [decide_eq_true_eq] at m3 ⊢
    simp [m__law_box, b__law_box, List.replicate, Ent.d, hk, hk', at_, pw, md, m1, m3]
  · apply Int.mul_nonneg
    · split <;> omega
    · generalize decide (1000000000000000000 ≤ (if c < 0 then -c else c)) = z
      cases z <;> decide
end Bl
/-! The law of all cells, from the law of one box. -/
namespace Bl
open PySem PySem.Spec PyProof.Rows L2 Evl
theorem pure_of (right_ok : ∀ {b : D}, Box 0 b → ∃ b', m__law_right b [] = some (.val (.bl true), b')) (ns : List Int) (hl : ns.length ≤ 63) : m_law [.scr ns] = some (.val (.bl true)) := by
  obtain ⟨cs, hc, c0, c2⟩ := cells_ok ns hl
  have b0 : ∀ k : Nat, k < cs.length → ∃ b b', m__law_box [.lst (cs.map D.int), .int (k : Int)] = some (.own b) ∧ m__law_right b [] = some (.val (.bl true), b') := fun k hk => by
    obtain ⟨b, hb, bx⟩ := box_ok hk c2
    obtain ⟨b', hr⟩ := right_ok bx
    exact ⟨b, b', hb, hr⟩
  match cs, hc, c0, c2, b0 with
  | [], _, c0, _, _ => exact absurd rfl c0
  | [a], hc, _, _, b0 =>
    obtain ⟨b, b', hb, hr⟩ := b0 0 (by simp)
    have hb : m__law_box [.lst [.int a], .int 0] = some (.own b) := hb
    have rg : rngF 0 1 = [.int 0] := rfl
    simp at hc
    simp [m_law, b_law, List.replicate, Ent.d, hc, rg, lcL, hb, hr, bools]
  | [a, c], hc, _, _, b0 =>
    obtain ⟨b, b', hb, hr⟩ := b0 0 (by simp)
    obtain ⟨d, d', hd, hs⟩ := b0 1 (by simp)
    have hb : m__law_box [.lst [.int a, .int c], .int 0] = some (.own b) := hb
    have hd : m__law_box [.lst [.int a, .int c], .int 1] = some (.own d) := hd
    have rg : rngF 0 2 = [.int 0, .int 1] := rfl
    simp at hc
    simp [m_law, b_law, List.replicate, Ent.d, hc, rg, lcL, hb, hr, hd, hs, bools]
  | _ :: _ :: _ :: _, _, _, c2, _ => exact absurd c2 (by simp)
end Bl
/-! What is known of the slots, and rules by which a mirror is walked. -/
namespace Bl
open PySem PySem.Spec PyProof.Rows L2 Evl
/-- what is known of a slot: nothing; not own; shared; own; either -/
inductive Rq where
  | u | n | v (d : D) | o (d : D) | a (d : D)
abbrev As := List Rq
def Okq : Rq → Option (Option Ent) → Prop
  | .u, _ => True
  | .n, x => x = some none ∨ ∃ d, x = some (some (.v d))
  | .v d, x => x = some (some (.v d))
  | .o d, x => x = some (some (.o d))
  | .a d, x => x = some (some (.v d)) ∨ x = some (some (.o d))
def nthA : As → Nat → Rq
  | [], _ => .u
  | a :: _, 0 => a
  | _ :: A, i + 1 => nthA A i
def setA : As → Nat → Rq → As
  | [], _, _ => []
  | _ :: A, 0, r => r :: A
  | a :: A, i + 1, r => a :: setA A i r
structure Sat (A : As) (ρ : En) : Prop where
  len : ρ.length = A.length
  at_ : ∀ i, i < A.length → Okq (nthA A i) ρ[i]?
theorem setA_len : ∀ (A : As) (i : Nat) (r : Rq), (setA A i r).length = A.length
  | [], _, _ => rfl
  | _ :: A, 0, _ => rfl
  | a :: A, i + 1, r => by simp [setA, setA_len A i r]
theorem nth_set : ∀ (A : As) (i j : Nat) (r : Rq), j < A.length → nthA (setA A i r) j = if i = j then r else nthA A j
  | [], _, _, _, h => by simp at h
  | a :: A, 0, 0, r, _ => rfl
  | a :: A, 0, j + 1, r, _ => by simp [setA, nthA]
  | a :: A, i + 1, 0, r, _ => by simp [setA, nthA]
  | a :: A, i + 1, j + 1, r, h => by
    have := nth_set A i j r (by simpa using h)
    simp [setA, nthA, this]
theorem nth_out : ∀ (A : As) (i : Nat), A.length ≤ i → nthA A i = .u
  | [], _, _ => rfl
  | a :: A, 0, h => by simp at h
  | a :: A, i + 1, h => by simpa [nthA] using nth_out A i (by simpa using h)
section
variable {A B : As} {ρ : En}
theorem Sat.get (h : Sat A ρ) {i : Nat} {r : Rq} (e : nthA A i = r) (hr : r ≠ .u) : i < ρ.length ∧ Okq r ρ[i]? := by
  by_cases q : i < A.length
  · have := h.at_ i q
    rw [e] at this
    exact ⟨by rw [h.len]; exact q, this⟩
  · rw [nth_out A i (by omega)] at e
    exact absurd e.symm hr
theorem Sat.set (h : Sat A ρ) {i : Nat} {r : Rq} {e : Option Ent} (q : Okq r (some e)) : Sat (setA A i r) (ρ.set i e) := by
  refine ⟨by rw [List.length_set, setA_len, h.len], fun j hj => ?_⟩
  rw [setA_len] at hj
  rw [nth_set A i j r hj]
  by_cases z : i = j
  · subst z
    rw [if_pos rfl, List.getElem?_set_self (by rw [h.len]; exact hj)]
    exact q
  · rw [if_neg z, List.getElem?_set_ne z]
    exact h.at_ j hj
theorem Sat.put (h : Sat A ρ) {i : Nat} {r : Rq} (q : i < A.length → Okq r ρ[i]?) : Sat (setA A i r) ρ := by
  refine ⟨by rw [setA_len, h.len], fun j hj => ?_⟩
  rw [setA_len] at hj
  rw [nth_set A i j r hj]
  by_cases z : i = j
  · subst z
    rw [if_pos rfl]
    exact q hj
  · rw [if_neg z]
    exact h.at_ j hj
theorem Sat.sv (h : Sat A ρ) {i : Nat} {d : D} : Sat (setA A i (.v d)) (ρ.set i (some (.v d))) := h.set (r := .v d) rfl
theorem Sat.so (h : Sat A ρ) {i : Nat} {d : D} : Sat (setA A i (.o d)) (ρ.set i (some (.o d))) := h.set (r := .o d) rfl
/-- weaker knowledge -/
def Wk (A B : As) : Prop := ∀ ρ, Sat A ρ → Sat B ρ
theorem Wk.refl (A : As) : Wk A A := fun _ h => h
theorem Wk.trans {C : As} (a : Wk A B) (b : Wk B C) : Wk A C := fun ρ h => b ρ (a ρ h)
theorem Wk.nil : Wk [] [] := fun _ h => h
theorem Wk.cons {r s : Rq} (q : ∀ x, Okq r x → Okq s x) (w : Wk A B) : Wk (r :: A) (s :: B) := fun ρ h => by
  cases ρ with
  | nil => have := h.len; simp at this
  | cons e ρ =>
    have hl := h.len
    have t : Sat A ρ := ⟨by simpa using hl, fun i hi => h.at_ (i + 1) (by simpa using hi)⟩
    have t' := w ρ t
    refine ⟨by simp [t'.len], fun i hi => ?_⟩
    cases i with
    | zero => exact q _ (h.at_ 0 (by simp))
    | succ i => exact t'.at_ i (by simpa using hi)
theorem Wk.u {r : Rq} (w : Wk A B) : Wk (r :: A) (.u :: B) := Wk.cons (fun _ _ => trivial) w
theorem Wk.same {r : Rq} (w : Wk A B) : Wk (r :: A) (r :: B) := Wk.cons (fun _ h => h) w
theorem Wk.v {d e : D} (z : d = e) (w : Wk A B) : Wk (.v d :: A) (.v e :: B) := z ▸ Wk.same w
theorem Wk.o {d e : D} (z : d = e) (w : Wk A B) : Wk (.o d :: A) (.o e :: B) := z ▸ Wk.same w
theorem Wk.a {d e : D} (z : d = e) (w : Wk A B) : Wk (.a d :: A) (.a e :: B) := z ▸ Wk.same w
theorem Wk.va {d e : D} (z : d = e) (w : Wk A B) : Wk (.v d :: A) (.a e :: B) := z ▸ Wk.cons (fun _ h => .inl h) w
theorem Wk.oa {d e : D} (z : d = e) (w : Wk A B) : Wk (.o d :: A) (.a e :: B) := z ▸ Wk.cons (fun _ h => .inr h) w
theorem Wk.vn {d : D} (w : Wk A B) : Wk (.v d :: A) (.n :: B) := Wk.cons (fun _ h => .inr ⟨d, h⟩) w
end
/-! ### judgements -/
def WE (A : As) (f : Ev) (K : Opd → As → Prop) : Prop := ∀ ρ, Sat A ρ → ∃ w ρ' B, f ρ = some (w, ρ') ∧ Sat B ρ' ∧ K w B
def WEs (A : As) (f : Evs) (K : List D → As → Prop) : Prop := ∀ ρ, Sat A ρ → ∃ w ρ' B, f ρ = some (w, ρ') ∧ Sat B ρ' ∧ K w B
def WEo (A : As) (f : Evo) (K : List Opd → As → Prop) : Prop := ∀ ρ, Sat A ρ → ∃ w ρ' B, f ρ = some (w, ρ') ∧ Sat B ρ' ∧ K w B
def WT (A : As) (f : Tv) (K : Bool → As → Prop) : Prop := ∀ ρ, Sat A ρ → ∃ w ρ' B, f ρ = some (w, ρ') ∧ Sat B ρ' ∧ K w B
def WR (A : As) (f : Src) (K : List D → As → Prop) : Prop := ∀ ρ, Sat A ρ → ∃ w ρ' B, f ρ = some (w, ρ') ∧ Sat B ρ' ∧ K w B
def WO (A : As) (f : Ov) (K : Option Int → As → Prop) : Prop := ∀ ρ, Sat A ρ → ∃ w ρ' B, f ρ = some (w, ρ') ∧ Sat B ρ' ∧ K w B
def WG (d : D) (A : As) (f : Gs) (K : As → Prop) : Prop := ∀ ρ, Sat A ρ → ∃ ρ' B, f d ρ = some ρ' ∧ Sat B ρ' ∧ K B
def WGs (ds : List D) (A : As) (f : Gss) (K : As → Prop) : Prop := ∀ ρ, Sat A ρ → ∃ ρ' B, f ds ρ = some ρ' ∧ Sat B ρ' ∧ K B
inductive OA where
  | nx (A : As) | rt (w : Opd) (A : As) | bk (A : As) | ct (A : As)
def SatO : OA → Out → Prop
  | .nx A, .nx ρ => Sat A ρ
  | .rt w A, .rt w' ρ => w' = w ∧ Sat A ρ
  | .bk A, .bk ρ => Sat A ρ
  | .ct A, .ct ρ => Sat A ρ
  | _, _ => False
def WS (A : As) (f : Sv) (Q : OA → Prop) : Prop := ∀ ρ, Sat A ρ → ∃ o oa, f ρ = some o ∧ SatO oa o ∧ Q oa
/-- something is told, and K goes on with it -/
def CL {α : Type} (o : Option α) (K : α → Prop) : Prop := ∃ w, o = some w ∧ K w
def ISB (d : D) (K : Bool → Prop) : Prop := ∃ z, d = .bl z ∧ K z
theorem ISB.mk {z : Bool} {K : Bool → Prop} (k : K z) : ISB (.bl z) K := ⟨z, rfl, k⟩
def ISI (d : D) (K : Int → Prop) : Prop := ∃ z, d = .int z ∧ K z
theorem ISI.mk {z : Int} {K : Int → Prop} (k : K z) : ISI (.int z) K := ⟨z, rfl, k⟩
def SQO (d : D) (K : List D → Prop) : Prop := ∃ ds, seqOf d = some ds ∧ K ds
theorem SQO.l {ds : List D} {K : List D → Prop} (k : K ds) : SQO (.lst ds) K := ⟨ds, rfl, k⟩
theorem SQO.t {ds : List D} {K : List D → Prop} (k : K ds) : SQO (.tup ds) K := ⟨ds, rfl, k⟩
def OL (A : As) (i : Nat) (K : List D → Prop) : Prop := ∃ l, nthA A i = .o (.lst l) ∧ K l
theorem OL.mk {A : As} {i : Nat} {l : List D} {K : List D → Prop} (h : nthA A i = .o (.lst l)) (k : K l) : OL A i K := ⟨l, h, k⟩
def OD (A : As) (i : Nat) (K : List (Key × D) → Prop) : Prop := ∃ l, nthA A i = .o (.dic l) ∧ K l
theorem OD.mk {A : As} {i : Nat} {l : List (Key × D)} {K : List (Key × D) → Prop} (h : nthA A i = .o (.dic l)) (k : K l) : OD A i K := ⟨l, h, k⟩
def OO (A : As) (i : Nat) (K : D → Prop) : Prop := ∃ d, nthA A i = .o d ∧ K d
theorem OO.mk {A : As} {i : Nat} {d : D} {K : D → Prop} (h : nthA A i = .o d) (k : K d) : OO A i K := ⟨d, h, k⟩
/-- a condition by the way -/
def SZ (p K : Prop) : Prop := p ∧ K
theorem SZ.mk {p K : Prop} (h : p) (k : K) : SZ p K := ⟨h, k⟩
def OW (w : Opd) (K : D → Prop) : Prop := ∃ d, w = .own d ∧ K d
theorem OW.mk {d : D} {K : D → Prop} (k : K d) : OW (.own d) K := ⟨d, rfl, k⟩
def DC (d : D) (K : List (Key × D) → Prop) : Prop := ∃ l, d = .dic l ∧ K l
theorem DC.mk {l : List (Key × D)} {K : List (Key × D) → Prop} (k : K l) : DC (.dic l) K := ⟨l, rfl, k⟩
def NT (d : D) (K : Nat → Prop) : Prop := ∃ n : Nat, d = .int n ∧ K n
theorem NT.mk {n : Nat} {K : Nat → Prop} (k : K n) : NT (.int n) K := ⟨n, rfl, k⟩
theorem NT.of {i : Int} {n : Nat} {K : Nat → Prop} (h : i = n) (k : K n) : NT (.int i) K := ⟨n, by rw [h], k⟩
def SS (d : D) (K : Str → Prop) : Prop := ∃ x, d = .str x ∧ K x
theorem SS.mk {x : Str} {K : Str → Prop} (k : K x) : SS (.str x) K := ⟨x, rfl, k⟩
/-- an operand is read; it is let go; it is kept beside others -/
def RD (A : As) (w : Opd) (K : D → Prop) : Prop := ∃ d, (∀ ρ, Sat A ρ → rd ρ w = some d) ∧ K d
def RL (A : As) (w : Opd) (K : D → As → Prop) : Prop := ∀ ρ, Sat A ρ → ∃ d ρ' B, rel ρ w = some (d, ρ') ∧ Sat B ρ' ∧ K d B
def FX (A : As) (w : Opd) (K : Opd → As → Prop) : Prop := ∀ ρ, Sat A ρ → ∃ d ρ' B, fixO ρ w = some (d, ρ') ∧ Sat B ρ' ∧ K d B
def ST (i : Nat) (A : As) (w : Opd) (K : As → Prop) : Prop := ∀ ρ, Sat A ρ → ∃ ρ' B, stO i ρ w = some ρ' ∧ Sat B ρ' ∧ K B
section
variable {A B : As} {i j : Nat} {d : D} {w : Opd}
theorem WE.wk {f : Ev} {K : Opd → As → Prop} (h : Wk A B) (g : WE B f K) : WE A f K := fun ρ s => g ρ (h ρ s)
theorem WS.wk {f : Sv} {Q : OA → Prop} (h : Wk A B) (g : WS B f Q) : WS A f Q := fun ρ s => g ρ (h ρ s)
theorem WT.wk {f : Tv} {K : Bool → As → Prop} (h : Wk A B) (g : WT B f K) : WT A f K := fun ρ s => g ρ (h ρ s)
theorem WG.wk {f : Gs} {K : As → Prop} (h : Wk A B) (g : WG d B f K) : WG d A f K := fun ρ s => g ρ (h ρ s)
theorem WR.wk {f : Src} {K : List D → As → Prop} (h : Wk A B) (g : WR B f K) : WR A f K := fun ρ s => g ρ (h ρ s)
/-! reading -/
theorem RD.val {K : D → Prop} (k : K d) : RD A (.val d) K := ⟨d, fun _ _ => rfl, k⟩
theorem RD.own {K : D → Prop} (k : K d) : RD A (.own d) K := ⟨d, fun _ _ => rfl, k⟩
theorem RD.v {K : D → Prop} (h : nthA A i = .v d) (k : K d) : RD A (.pl i) K := ⟨d, fun ρ s => by
  have := (s.get h (by simp)).2
  simp only [Okq] at this
  simp [this], k⟩
theorem RD.o {K : D → Prop} (h : nthA A i = .o d) (k : K d) : RD A (.pl i) K := ⟨d, fun ρ s => by
  have := (s.get h (by simp)).2
  simp only [Okq] at this
  simp [this], k⟩
theorem RD.a {K : D → Prop} (h : nthA A i = .a d) (k : K d) : RD A (.pl i) K := ⟨d, fun ρ s => by
  rcases (s.get h (by simp)).2 with q | q <;> simp [q], k⟩
theorem RL.val {K : D → As → Prop} (k : K d A) : RL A (.val d) K := fun ρ s => ⟨d, ρ, A, rfl, s, k⟩
theorem RL.own {K : D → As → Prop} (k : K d A) : RL A (.own d) K := fun ρ s => ⟨d, ρ, A, rfl, s, k⟩
theorem RL.v {K : D → As → Prop} (h : nthA A i = .v d) (k : K d A) : RL A (.pl i) K := fun ρ s => by
  have := (s.get h (by simp)).2
  simp only [Okq] at this
  exact ⟨d, ρ, A, by simp [this], s, k⟩
theorem RL.o {K : D → As → Prop} (h : nthA A i = .o d) (k : K d (setA A i (.v d))) : RL A (.pl i) K := fun ρ s => by
  have := (s.get h (by simp)).2
  simp only [Okq] at this
  exact ⟨d, ρ.set i (some (.v d)), _, by simp [this], s.sv, k⟩
theorem RL.a {K : D → As → Prop} (h : nthA A i = .a d) (k : K d (setA A i (.v d))) : RL A (.pl i) K := fun ρ s => by
  rcases (s.get h (by simp)).2 with q | q
  · exact ⟨d, ρ, _, by simp [q], s.put (r := .v d) fun _ => q, k⟩
  · exact ⟨d, ρ.set i (some (.v d)), _, by simp [q], s.sv, k⟩
theorem FX.val {K : Opd → As → Prop} (k : K (.val d) A) : FX A (.val d) K := fun ρ s => ⟨_, ρ, A, rfl, s, k⟩
theorem FX.own {K : Opd → As → Prop} (k : K (.own d) A) : FX A (.own d) K := fun ρ s => ⟨_, ρ, A, rfl, s, k⟩
theorem FX.pl {K : Opd → As → Prop} (k : RL A (.pl i) fun d B => K (.val d) B) : FX A (.pl i) K := fun ρ s => by
  obtain ⟨d, ρ', B, e, q, k⟩ := k ρ s
  exact ⟨.val d, ρ', B, by
    have e' : relP ρ i = some (d, ρ') := e
    rw [e_fixO_1, e']; rfl, q, k⟩
theorem ST.val {K : As → Prop} (k : K (setA A i (.v d))) : ST i A (.val d) K := fun ρ s => ⟨_, _, rfl, s.sv, k⟩
theorem ST.own {K : As → Prop} (k : K (setA A i (.o d))) : ST i A (.own d) K := fun ρ s => ⟨_, _, rfl, s.so, k⟩
theorem ST.pl {K : As → Prop} (k : RL A (.pl j) fun d B => K (setA B i (.v d))) : ST i A (.pl j) K := fun ρ s => by
  obtain ⟨d, ρ', B, e, q, k⟩ := k ρ s
  refine ⟨_, _, ?_, q.sv, k⟩
  have e' : relP ρ j = some (d, ρ') := e
  rw [e_stO_3, e']; rfl
/-! calls, operators -/
theorem CL.mk {α : Type} {o : Option α} {x : α} {K : α → Prop} (h : o = some x) (k : K x) : CL o K := ⟨x, h, k⟩
/-! expressions -/
variable {K : Opd → As → Prop}
theorem WE.vv (h : nthA A i = .v d) (k : K (.pl i) A) : WE A (sVar i) K := fun ρ s => by
  have := (s.get h (by simp)).2
  simp only [Okq] at this
  exact ⟨_, ρ, A, by simp [this], s, k⟩
theorem WE.vo (h : nthA A i = .o d) (k : K (.pl i) A) : WE A (sVar i) K := fun ρ s => by
  have := (s.get h (by simp)).2
  simp only [Okq] at this
  exact ⟨_, ρ, A, by simp [this], s, k⟩
theorem WE.va (h : nthA A i = .a d) (k : K (.pl i) A) : WE A (sVar i) K := fun ρ s => by
  rcases (s.get h (by simp)).2 with q | q <;> exact ⟨_, ρ, A, by simp [q], s, k⟩
theorem WE.c (k : K (.val d) A) : WE A (sC d) K := fun ρ s => ⟨_, ρ, A, rfl, s, k⟩
theorem WE.op {g : D → D → Option Opd} {f1 f2 : Ev} (h : WE A f1 fun w1 A1 => WE A1 f2 fun w2 A2 => RD A2 w1 fun a => RD A2 w2 fun b => CL (g a b) fun w => K w A2) : WE A (sOp g f1 f2) K := fun ρ s => by
  obtain ⟨w1, ρ1, A1, e1, s1, h⟩ := h ρ s
  obtain ⟨w2, ρ2, A2, e2, s2, a, ra, b, rb, w, e, k⟩ := h ρ1 s1
  exact ⟨w, ρ2, A2, by simp [e1, e2, ra ρ2 s2, rb ρ2 s2, e], s2, k⟩
theorem WE.un {g : D → Option Opd} {f1 : Ev} (h : WE A f1 fun w1 A1 => RD A1 w1 fun a => CL (g a) fun w => K w A1) : WE A (sUn g f1) K := fun ρ s => by
  obtain ⟨w1, ρ1, A1, e1, s1, a, ra, w, e, k⟩ := h ρ s
  exact ⟨w, ρ1, A1, by simp [e1, ra ρ1 s1, e], s1, k⟩
theorem WEs.nil {K : List D → As → Prop} (k : K [] A) : WEs A sNil K := fun ρ s => ⟨_, ρ, A, rfl, s, k⟩
theorem WEs.cons {f : Ev} {fs : Evs} {K : List D → As → Prop} (h : WE A f fun w1 A1 => RL A1 w1 fun d A2 => WEs A2 fs fun ds A3 => K (d :: ds) A3) : WEs A (sCons f fs) K := fun ρ s => by
  obtain ⟨w1, ρ1, A1, e1, s1, h⟩ := h ρ s
  obtain ⟨d, ρ2, A2, e2, s2, h⟩ := h ρ1 s1
  obtain ⟨ds, ρ3, A3, e3, s3, k⟩ := h ρ2 s2
  exact ⟨d :: ds, ρ3, A3, by rw [e_sCons, e1]; simp only [Option.bind_some]; rw [e2]; simp [e3], s3, k⟩
theorem WE.tup {fs : Evs} (h : WEs A fs fun ds B => SZ (ds.length ≤ 1000000) (K (.val (.tup ds)) B)) : WE A (sTup fs) K := fun ρ s => by
  obtain ⟨ds, ρ1, A1, e1, s1, hl, k⟩ := h ρ s
  exact ⟨_, ρ1, A1, by rw [e_sTup, e1]; simp only [Option.bind_some]; rw [if_pos hl], s1, k⟩
theorem WE.lst {fs : Evs} (h : WEs A fs fun ds B => SZ (ds.length ≤ 1000000) (K (.own (.lst ds)) B)) : WE A (sLst fs) K := fun ρ s => by
  obtain ⟨ds, ρ1, A1, e1, s1, hl, k⟩ := h ρ s
  exact ⟨_, ρ1, A1, by rw [e_sLst, e1]; simp only [Option.bind_some]; rw [if_pos hl], s1, k⟩
theorem WE.ite {c : Tv} {f g : Ev} (h : WT A c fun b B => (b = true → WE B f K) ∧ (b = false → WE B g K)) : WE A (sIf c f g) K := fun ρ s => by
  obtain ⟨b, ρ1, A1, e1, s1, h1, h2⟩ := h ρ s
  cases b with
  | true =>
    obtain ⟨w, ρ2, A2, e2, s2, k⟩ := h1 rfl ρ1 s1
    exact ⟨w, ρ2, A2, by simp [e1, e2], s2, k⟩
  | false =>
    obtain ⟨w, ρ2, A2, e2, s2, k⟩ := h2 rfl ρ1 s1
    exact ⟨w, ρ2, A2, by simp [e1, e2], s2, k⟩
theorem WE.andV {f g : Ev} (h : WT A (sB f) fun b B => (b = true → WE B g K) ∧ (b = false → K (.val (.bl false)) B)) : WE A (sAndV f g) K := fun ρ s => by
  obtain ⟨b, ρ1, A1, e1, s1, h1, h2⟩ := h ρ s
  cases b with
  | true =>
    obtain ⟨w, ρ2, A2, e2, s2, k⟩ := h1 rfl ρ1 s1
    exact ⟨w, ρ2, A2, by rw [e_sAndV, e1]; simp [e2], s2, k⟩
  | false => exact ⟨_, ρ1, A1, by rw [e_sAndV, e1]; rfl, s1, h2 rfl⟩
theorem WE.orV {f g : Ev} (h : WT A (sB f) fun b B => (b = true → K (.val (.bl true)) B) ∧ (b = false → WE B g K)) : WE A (sOrV f g) K := fun ρ s => by
  obtain ⟨b, ρ1, A1, e1, s1, h1, h2⟩ := h ρ s
  cases b with
  | false =>
    obtain ⟨w, ρ2, A2, e2, s2, k⟩ := h2 rfl ρ1 s1
    exact ⟨w, ρ2, A2, by rw [e_sOrV, e1]; simp [e2], s2, k⟩
  | true => exact ⟨_, ρ1, A1, by rw [e_sOrV, e1]; rfl, s1, h1 rfl⟩
theorem WE.notV {f : Ev} (h : WT A (sB f) fun b B => K (.val (.bl (!b))) B) : WE A (sNotV f) K := fun ρ s => by
  obtain ⟨b, ρ1, A1, e1, s1, k⟩ := h ρ s
  exact ⟨_, ρ1, A1, by rw [e_sNotV, e1]; rfl, s1, k⟩
theorem WE.chain {g g' : D → D → Option Opd} {f1 f2 f3 : Ev} (h : WE A f1 fun w1 A1 => WE A1 f2 fun w2 A2 => RD A2 w1 fun a => RD A2 w2 fun b => CL (g a b) fun w => ∃ z, w = .val (.bl z) ∧ (z = true → WE A2 f3 fun w3 A3 => RD A3 w2 fun b' => RD A3 w3 fun c => CL (g' b' c) fun w => K w A3) ∧ (z = false → K (.val (.bl false)) A2)) : WE A (sChain g g' f1 f2 f3) K := fun ρ s => by
  obtain ⟨w1, ρ1, A1, e1, s1, h⟩ := h ρ s
  obtain ⟨w2, ρ2, A2, e2, s2, a, ra, b, rb, _, e, z, rfl, k1, k2⟩ := h ρ1 s1
  cases z with
  | true =>
    obtain ⟨w3, ρ3, A3, e3, s3, b', rb', c, rc, w, e', k⟩ := k1 rfl ρ2 s2
    exact ⟨w, ρ3, A3, by simp [e1, e2, ra ρ2 s2, rb ρ2 s2, e, e3, rb' ρ3 s3, rc ρ3 s3, e'], s3, k⟩
  | false => exact ⟨_, ρ2, A2, by simp [e1, e2, ra ρ2 s2, rb ρ2 s2, e], s2, k2 rfl⟩
theorem WO.none {K : Option Int → As → Prop} (k : K none A) : WO A sNoPart K := fun ρ s => ⟨_, ρ, A, rfl, s, k⟩
theorem WO.some {f : Ev} {K : Option Int → As → Prop} (h : WE A f fun w B => RD B w fun d => ISI d fun i => K (some i) B) : WO A (sPart f) K := fun ρ s => by
  obtain ⟨w, ρ1, A1, e1, s1, d, rd, i, rfl, k⟩ := h ρ s
  exact ⟨_, ρ1, A1, by simp [e1, rd ρ1 s1], s1, k⟩
theorem WE.slice {f : Ev} {l h : Ov} (q : WE A f fun w A1 => WO A1 l fun lo A2 => WO A2 h fun hi A3 => RD A3 w fun d => CL (cutO lo hi d) fun w => K w A3) : WE A (sSlice f l h) K := fun ρ s => by
  obtain ⟨w, ρ1, A1, e1, s1, q⟩ := q ρ s
  obtain ⟨lo, ρ2, A2, e2, s2, q⟩ := q ρ1 s1
  obtain ⟨hi, ρ3, A3, e3, s3, d, r, w', e4, k⟩ := q ρ2 s2
  exact ⟨w', ρ3, A3, by simp [e1, e2, e3, r ρ3 s3, e4], s3, k⟩
theorem WE.call {m : List D → Option Opd} {fs : Evs} (h : WEs A fs fun ds B => CL (m ds) fun w => K w B) : WE A (sCall m fs) K := fun ρ s => by
  obtain ⟨ds, ρ1, A1, e1, s1, w, e, k⟩ := h ρ s
  exact ⟨w, ρ1, A1, by simp [e1, e], s1, k⟩
/-- keyword arguments in the order of the names -/
def PM (is : List Nat) (ds : List D) (K : List D → Prop) : Prop := K (permL .non is ds)
theorem PM.p0 {a : D} {K : List D → Prop} (k : K [a]) : PM [0] [a] K := k
theorem PM.p01 {a b : D} {K : List D → Prop} (k : K [a, b]) : PM [0, 1] [a, b] K := k
theorem PM.p10 {a b : D} {K : List D → Prop} (k : K [b, a]) : PM [1, 0] [a, b] K := k
theorem PM.p210 {a b c : D} {K : List D → Prop} (k : K [c, b, a]) : PM [2, 1, 0] [a, b, c] K := k
theorem PM.p201 {a b c : D} {K : List D → Prop} (k : K [c, a, b]) : PM [2, 0, 1] [a, b, c] K := k
theorem PM.p120 {a b c : D} {K : List D → Prop} (k : K [b, c, a]) : PM [1, 2, 0] [a, b, c] K := k
theorem PM.p102 {a b c : D} {K : List D → Prop} (k : K [b, a, c]) : PM [1, 0, 2] [a, b, c] K := k
theorem PM.p021 {a b c : D} {K : List D → Prop} (k : K [a, c, b]) : PM [0, 2, 1] [a, b, c] K := k
theorem PM.p012 {a b c : D} {K : List D → Prop} (k : K [a, b, c]) : PM [0, 1, 2] [a, b, c] K := k
theorem WE.callP {is : List Nat} {m : List D → Option Opd} {fs : Evs} (h : WEs A fs fun ds B => PM is ds fun es => CL (m es) fun w => K w B) : WE A (sCallP is m fs) K := fun ρ s => by
  obtain ⟨ds, ρ1, A1, e1, s1, w, e, k⟩ := h ρ s
  exact ⟨w, ρ1, A1, by simp [e1, e], s1, k⟩
theorem WE.make {m : List D → Option D} {fs : Evs} (h : WEs A fs fun ds B => CL (m ds) fun d => K (.val d) B) : WE A (sMake m fs) K := fun ρ s => by
  obtain ⟨ds, ρ1, A1, e1, s1, w, e, k⟩ := h ρ s
  exact ⟨_, ρ1, A1, by simp [e1, e], s1, k⟩
theorem WE.meth {c : Str} {m : List D → Option Opd} {f : Ev} {fs : Evs} (h : WE A f fun w0 A1 => RL A1 w0 fun d A2 => SZ (isCls c d = true) (WEs A2 fs fun ds B => CL (m (d :: ds)) fun w => K w B)) : WE A (sMeth c m f fs) K := fun ρ s => by
  obtain ⟨w0, ρ1, A1, e1, s1, h⟩ := h ρ s
  obtain ⟨d, ρ2, A2, e2, s2, hc, h⟩ := h ρ1 s1
  obtain ⟨ds, ρ3, A3, e3, s3, w, e, k⟩ := h ρ2 s2
  exact ⟨w, ρ3, A3, by rw [e_sMeth, e1]; simp only [Option.bind_some]; rw [e2]; simp [hc, e3, e], s3, k⟩
theorem WE.callI {m : D → List D → Option (Opd × D)} {fs : Evs} {d0 : D} (h0 : nthA A i = .o d0) (h : WEs A fs fun ds B => OO B i fun d => CL (m d ds) fun z => K z.1 (setA B i (.o z.2))) : WE A (sCallI i m fs) K := fun ρ s => by
  obtain ⟨ds, ρ1, A1, e1, s1, d, hd, z, e, k⟩ := h ρ s
  have q := (s1.get hd (by simp)).2
  have q0 := (s.get h0 (by simp)).2
  simp only [Okq] at q q0
  exact ⟨z.1, _, _, by simp [q0, e1, q, e], s1.so, k⟩
theorem WE.callT {m : D → List D → Option (Opd × D)} {f : Ev} {fs : Evs} (h : WE A f fun w0 A1 => OW w0 fun d => WEs A1 fs fun ds B => CL (m d ds) fun z => K z.1 B) : WE A (sCallT m f fs) K := fun ρ s => by
  obtain ⟨w0, ρ1, A1, e1, s1, d, rfl, h⟩ := h ρ s
  obtain ⟨ds, ρ2, A2, e2, s2, z, e, k⟩ := h ρ1 s1
  exact ⟨z.1, ρ2, A2, by simp [e1, e2, e], s2, k⟩
theorem WE.newD (k : K (.own (.dic [])) A) : WE A sNewD K := fun ρ s => ⟨_, ρ, A, rfl, s, k⟩
theorem WE.app {f : Ev} {l0 : List D} (h0 : nthA A i = .o (.lst l0)) (h : WE A f fun w A1 => RL A1 w fun d A2 => OL A2 i fun l => SZ (l.length < 1000000) (K (.val .non) (setA A2 i (.o (.lst (l ++ [d])))))) : WE A (sApp i f) K := fun ρ s => by
  obtain ⟨w, ρ1, A1, e1, s1, h⟩ := h ρ s
  obtain ⟨d, ρ2, A2, e2, s2, l, hl, sz, k⟩ := h ρ1 s1
  have q0 := (s.get h0 (by simp)).2
  have q := (s2.get hl (by simp)).2
  simp only [Okq] at q q0
  exact ⟨_, _, _, by rw [e_sApp, e_ownL, q0]; simp only [Option.bind_some]; rw [e1]; simp only [Option.bind_some]; rw [e2]; simp [q, sz], s2.so, k⟩
theorem WE.ins {fk f : Ev} {l0 : List D} (h0 : nthA A i = .o (.lst l0)) (h : WE A fk fun wk Ak => RL Ak wk fun dk Ak2 => NT dk fun k => WE Ak2 f fun w A1 => RL A1 w fun d A2 => OL A2 i fun l => SZ (l.length < 1000000) (SZ (k ≤ 1000000) (K (.val .non) (setA A2 i (.o (.lst (l.take k ++ [d] ++ l.drop k))))))) : WE A (sIns i fk f) K := fun ρ s => by
  obtain ⟨wk, ρk, Ak, ek, sk, h⟩ := h ρ s
  obtain ⟨dk, ρk2, Ak2, ek2, sk2, k, rfl, h⟩ := h ρk sk
  obtain ⟨w, ρ1, A1, e1, s1, h⟩ := h ρk2 sk2
  obtain ⟨d, ρ2, A2, e2, s2, l, hl, sz, hk, k'⟩ := h ρ1 s1
  have q0 := (s.get h0 (by simp)).2
  have q := (s2.get hl (by simp)).2
  simp only [Okq] at q q0
  refine ⟨_, _, _, ?_, s2.so, k'⟩
  rw [e_sIns, e_ownL, q0]; simp only [Option.bind_some]; rw [ek]; simp only [Option.bind_some]; rw [ek2]; simp only [Option.bind_some]; rw [e1]; simp only [Option.bind_some]; rw [e2]
  have hk' : (k : Int) ≤ 1000000 := by omega
  simp [q, sz, hk']
theorem WE.popAt {f : Ev} {l0 : List D} (h0 : nthA A i = .o (.lst l0)) (h : WE A f fun w A1 => RL A1 w fun d A2 => NT d fun j => OL A2 i fun l => SZ (j ≤ 1000000) (CL l[j]? fun y => K (.val y) (setA A2 i (.o (.lst (l.eraseIdx j)))))) : WE A (sPopAt i f) K := fun ρ s => by
  obtain ⟨w, ρ1, A1, e1, s1, h⟩ := h ρ s
  obtain ⟨d, ρ2, A2, e2, s2, j, rfl, l, hl, hj2, y, hj, k⟩ := h ρ1 s1
  have q0 := (s.get h0 (by simp)).2
  have q := (s2.get hl (by simp)).2
  simp only [Okq] at q q0
  refine ⟨_, _, _, ?_, s2.so, k⟩
  have hlt := (List.getElem?_eq_some_iff.mp hj).1
  have si : seqIndex? (j : Int) l.length = some j := by
    unfold seqIndex?
    simp; omega
  have h1 : (-1000000 : Int) ≤ (j : Int) ∧ (j : Int) ≤ 1000000 := by omega
  rw [e_sPopAt, e_ownL, q0]; simp only [Option.bind_some]; rw [e1]; simp only [Option.bind_some]; rw [e2]
  simp only [Option.bind_some, e_ownL, q]
  rw [if_pos h1, si]
  simp [hj]
theorem WE.rem {f : Ev} {l0 : List D} (h0 : nthA A i = .o (.lst l0)) (h : WE A f fun w A1 => RL A1 w fun d A2 => SS d fun y => ∃ l : List Str, nthA A2 i = .o (.lst (l.map D.str)) ∧ y ∈ l ∧ K (.val .non) (setA A2 i (.o (.lst ((l.erase y).map D.str))))) : WE A (sRemove i f) K := fun ρ s => by
  obtain ⟨w, ρ1, A1, e1, s1, h⟩ := h ρ s
  obtain ⟨d, ρ2, A2, e2, s2, y, rfl, l, hl, hy, k⟩ := h ρ1 s1
  have q0 := (s.get h0 (by simp)).2
  have q := (s2.get hl (by simp)).2
  simp only [Okq] at q q0
  obtain ⟨n, n1, n2⟩ : ∃ n, l.idxOf? y = some n ∧ l.eraseIdx n = l.erase y := by
    clear h k q hl e1 e2 s1 s2
    induction l with
    | nil => cases hy
    | cons z l ih =>
      by_cases q : z = y
      · subst q; exact ⟨0, by simp [List.idxOf?_cons], by simp⟩
      · obtain ⟨n, a, b⟩ := ih ((List.mem_cons.mp hy).resolve_left (Ne.symm q))
        exact ⟨n + 1, by simp [List.idxOf?_cons, q, a], by simp [List.erase_cons, q, b]⟩
  have sd : ∀ l : List Str, strsD (l.map D.str) = some l := fun l => by
    induction l with
    | nil => rfl
    | cons a l ih => simp [ih]
  refine ⟨_, _, _, ?_, s2.so, k⟩
  rw [e_sRemove, e_ownL, q0]; simp only [Option.bind_some]; rw [e1]; simp only [Option.bind_some]; rw [e2]
  simp only [Option.bind_some, e_ownL, q, sd, n1, Option.map_some, n2]
theorem WE.upd {f : Ev} {k0 : List (Key × D)} (h0 : nthA A i = .o (.dic k0)) (h : WE A f fun w A1 => RL A1 w fun d A2 => DC d fun more => OD A2 i fun ks => SZ (ks.length + more.length ≤ 1000000) (K (.val .non) (setA A2 i (.o (.dic (mergeD ks more)))))) : WE A (sUpd i f) K := fun ρ s => by
  obtain ⟨w, ρ1, A1, e1, s1, h⟩ := h ρ s
  obtain ⟨d, ρ2, A2, e2, s2, more, rfl, ks, hl, sz, k⟩ := h ρ1 s1
  have q0 := (s.get h0 (by simp)).2
  have q := (s2.get hl (by simp)).2
  simp only [Okq] at q q0
  refine ⟨_, _, _, ?_, s2.so, k⟩
  rw [e_sUpd, e_ownD, q0]; simp only [Option.bind_some]; rw [e1]; simp only [Option.bind_some]; rw [e2]
  simp only [Option.bind_some, e_ownD, q]
  rw [if_pos sz]
end
end Bl
namespace Bl
open PySem PySem.Spec PyProof.Rows L2 Evl
section
variable {A B : As} {i j : Nat} {d : D} {w : Opd}
/-! tests -/
theorem WT.b {f : Ev} {K : Bool → As → Prop} (h : WE A f fun w B => RD B w fun d => ISB d fun z => K z B) : WT A (sB f) K := fun ρ s => by
  obtain ⟨w, ρ1, A1, e1, s1, d, r, z, rfl, k⟩ := h ρ s
  exact ⟨z, ρ1, A1, by simp [e1, r ρ1 s1], s1, k⟩
theorem WT.and {f g : Tv} {K : Bool → As → Prop} (h : WT A f fun b B => (b = true → WT B g K) ∧ (b = false → K false B)) : WT A (sAnd f g) K := fun ρ s => by
  obtain ⟨b, ρ1, A1, e1, s1, h1, h2⟩ := h ρ s
  cases b with
  | true =>
    obtain ⟨w, ρ2, A2, e2, s2, k⟩ := h1 rfl ρ1 s1
    exact ⟨w, ρ2, A2, by simp [e1, e2], s2, k⟩
  | false => exact ⟨_, ρ1, A1, by simp [e1], s1, h2 rfl⟩
theorem WT.or {f g : Tv} {K : Bool → As → Prop} (h : WT A f fun b B => (b = true → K true B) ∧ (b = false → WT B g K)) : WT A (sOr f g) K := fun ρ s => by
  obtain ⟨b, ρ1, A1, e1, s1, h1, h2⟩ := h ρ s
  cases b with
  | false =>
    obtain ⟨w, ρ2, A2, e2, s2, k⟩ := h2 rfl ρ1 s1
    exact ⟨w, ρ2, A2, by simp [e1, e2], s2, k⟩
  | true => exact ⟨_, ρ1, A1, by simp [e1], s1, h1 rfl⟩
theorem WT.not {f : Tv} {K : Bool → As → Prop} (h : WT A f fun b B => K (!b) B) : WT A (sNot f) K := fun ρ s => by
  obtain ⟨b, ρ1, A1, e1, s1, k⟩ := h ρ s
  exact ⟨_, ρ1, A1, by simp [e1], s1, k⟩
theorem WT.yes {K : Bool → As → Prop} (k : K true A) : WT A sYes K := fun ρ s => ⟨_, ρ, A, rfl, s, k⟩
/-- a test's answer, and that all is known as before -/
def EW (b p : Bool) (B A : As) : Prop := b = p ∧ Wk B A
theorem EW.mk {b : Bool} (w : Wk B A) : EW b b B A := ⟨rfl, w⟩
/-- both parts of a test, each told by itself -/
theorem WT.and2 {f g : Tv} {K : Bool → As → Prop} {p q : Bool} (h1 : WT A f fun b B => EW b p B A) (h2 : p = true → WT A g fun b B => EW b q B A) (k : K (p && q) A) : WT A (sAnd f g) K := by
  refine WT.and fun ρ s => ?_
  obtain ⟨b, ρ1, A1, e1, s1, rfl, wk⟩ := h1 ρ s
  refine ⟨b, ρ1, A, e1, wk _ s1, fun hb => ?_, fun hb => ?_⟩
  · subst hb
    intro ρ2 s2
    obtain ⟨b2, ρ3, A3, e3, s3, rfl, wk3⟩ := h2 rfl ρ2 s2
    exact ⟨b2, ρ3, A, e3, wk3 _ s3, k⟩
  · subst hb; exact k
theorem WT.or2 {f g : Tv} {K : Bool → As → Prop} {p q : Bool} (h1 : WT A f fun b B => EW b p B A) (h2 : p = false → WT A g fun b B => EW b q B A) (k : K (p || q) A) : WT A (sOr f g) K := by
  refine WT.or fun ρ s => ?_
  obtain ⟨b, ρ1, A1, e1, s1, rfl, wk⟩ := h1 ρ s
  refine ⟨b, ρ1, A, e1, wk _ s1, fun hb => ?_, fun hb => ?_⟩
  · subst hb; exact k
  · subst hb
    intro ρ2 s2
    obtain ⟨b2, ρ3, A3, e3, s3, rfl, wk3⟩ := h2 rfl ρ2 s2
    exact ⟨b2, ρ3, A, e3, wk3 _ s3, k⟩
/-! sources -/
theorem WR.rel {f : Ev} {K : List D → As → Prop} (h : WE A f fun w B => RL B w fun d C => SQO d fun ds => K ds C) : WR A (cRel f) K := fun ρ s => by
  obtain ⟨w, ρ1, A1, e1, s1, h⟩ := h ρ s
  obtain ⟨d, ρ2, A2, e2, s2, ds, e3, k⟩ := h ρ1 s1
  exact ⟨ds, ρ2, A2, by rw [e_cRel, e1]; simp only [Option.bind_some]; rw [e2]; simp [e3], s2, k⟩
theorem WR.pl {K : List D → As → Prop} (h : RD A (.pl i) fun d => SQO d fun ds => K ds A) : WR A (cPl i) K := fun ρ s => by
  obtain ⟨d, r, ds, e, k⟩ := h
  have q : cur ρ i = some d := r ρ s
  exact ⟨ds, ρ, A, by rw [e_cPl, q]; simp [e], s, k⟩
theorem WR.enum {fs : Evs} {K : List D → As → Prop} (h : WEs A fs fun ds B => ∃ l, ds = [.lst l] ∧ K (enumF 0 l) B) : WR A (cEnum fs) K := fun ρ s => by
  obtain ⟨ds, ρ1, A1, e1, s1, l, rfl, k⟩ := h ρ s
  exact ⟨_, ρ1, A1, by simp [e1], s1, k⟩
theorem WR.enumL {fs : Evs} {K : List D → As → Prop} (h : WEs A fs fun ds B => ∃ l, ds = [.lst l] ∧ K (enumF 0 l) B) : WR A (cEnumU fs) K := fun ρ s => by
  obtain ⟨ds, ρ1, A1, e1, s1, l, rfl, k⟩ := h ρ s
  exact ⟨_, ρ1, A1, by unfold cEnumU; simp [e1], s1, k⟩
theorem WR.enumT {fs : Evs} {K : List D → As → Prop} (h : WEs A fs fun ds B => ∃ l, ds = [.tup l] ∧ K (enumF 0 l) B) : WR A (cEnumU fs) K := fun ρ s => by
  obtain ⟨ds, ρ1, A1, e1, s1, l, rfl, k⟩ := h ρ s
  exact ⟨_, ρ1, A1, by unfold cEnumU; simp [e1], s1, k⟩
theorem WR.rng {fs : Evs} {K : List D → As → Prop} (h : WEs A fs fun ds B => ∃ n : Nat, ds = [.int n] ∧ n ≤ 1000000 ∧ K (rngF 0 n) B) : WR A (cRng1 fs) K := fun ρ s => by
  obtain ⟨ds, ρ1, A1, e1, s1, n, rfl, hn, k⟩ := h ρ s
  have q : (-1000000 : Int) ≤ (n : Int) ∧ (n : Int) ≤ 1000000 := by omega
  refine ⟨_, ρ1, A1, ?_, s1, k⟩
  rw [e_cRng1, e1]
  simp only [Option.bind_some]
  rw [if_pos q]; simp
theorem WR.zipL {fs : Evs} {K : List D → As → Prop} (h : WEs A fs fun ds B => ∃ a b, ds = [.lst a, .lst b] ∧ a.any isPr = false ∧ K (List.zipWith (fun x y => .tup [x, y]) a b) B) : WR A (cZip fs) K := fun ρ s => by
  obtain ⟨ds, ρ1, A1, e1, s1, a, b, rfl, hp, k⟩ := h ρ s
  exact ⟨_, ρ1, A1, by rw [e_cZip, e1]; simp only [Option.bind_some]; rw [if_pos hp], s1, k⟩
theorem WR.zipT {fs : Evs} {K : List D → As → Prop} (h : WEs A fs fun ds B => ∃ a b, ds = [.tup a, .tup b] ∧ a.any isPr = false ∧ K (List.zipWith (fun x y => .tup [x, y]) a b) B) : WR A (cZip fs) K := fun ρ s => by
  obtain ⟨ds, ρ1, A1, e1, s1, a, b, rfl, hp, k⟩ := h ρ s
  exact ⟨_, ρ1, A1, by rw [e_cZip, e1]; simp only [Option.bind_some]; rw [if_pos hp], s1, k⟩
/-! targets -/
theorem WG.name {K : As → Prop} (k : K (setA A i (.v d))) : WG d A (hName i) K := fun ρ s => ⟨_, _, rfl, s.sv, k⟩
theorem WGs.nil {K : As → Prop} (k : K A) : WGs [] A hNil K := fun ρ s => ⟨ρ, A, rfl, s, k⟩
theorem WGs.cons {ds : List D} {g : Gs} {gs : Gss} {K : As → Prop} (h : WG d A g fun B => WGs ds B gs K) : WGs (d :: ds) A (hCons g gs) K := fun ρ s => by
  obtain ⟨ρ1, A1, e1, s1, h⟩ := h ρ s
  obtain ⟨ρ2, A2, e2, s2, k⟩ := h ρ1 s1
  exact ⟨ρ2, A2, by simp [e1, e2], s2, k⟩
theorem WG.tup {n : Nat} {ds : List D} {g : Gss} {K : As → Prop} (hn : ds.length = n) (h : WGs ds A g K) : WG (.tup ds) A (hTup n g) K := fun ρ s => by
  obtain ⟨ρ1, A1, e1, s1, k⟩ := h ρ s
  exact ⟨ρ1, A1, by rw [e_hTup]; simp only; rw [if_pos hn, e1], s1, k⟩
theorem WG.sub {f : Ev} {K : As → Prop} {k0 : List (Key × D)} (h0 : nthA A i = .o (.dic k0)) (h : WE A f fun w B => RD B w fun dk => CL (keyD dk) fun key => OD B i fun ks => SZ (ks.length < 1000000) (K (setA B i (.o (.dic (putD ks key d)))))) : WG d A (hSub i f) K := fun ρ s => by
  obtain ⟨w, ρ1, A1, e1, s1, dk, r, key, hk, ks, hl, sz, k⟩ := h ρ s
  have q0 := (s.get h0 (by simp)).2
  have q := (s1.get hl (by simp)).2
  simp only [Okq] at q q0
  refine ⟨_, _, ?_, s1.so, k⟩
  rw [e_hSub, e_ownD, q0]; simp only [Option.bind_some]; rw [e1]; simp only [Option.bind_some]; rw [r ρ1 s1]
  simp only [hk, Option.bind_some, e_ownD, q]
  rw [if_pos sz]
/-! statements -/
variable {Q : OA → Prop}
def sq (g : Sv) (Q : OA → Prop) : OA → Prop
  | .nx B => WS B g Q
  | o => Q o
theorem SQ.nx {g : Sv} (h : WS B g Q) : sq g Q (.nx B) := h
theorem SQ.rt {g : Sv} (h : Q (.rt w B)) : sq g Q (.rt w B) := h
theorem SQ.bk {g : Sv} (h : Q (.bk B)) : sq g Q (.bk B) := h
theorem SQ.ct {g : Sv} (h : Q (.ct B)) : sq g Q (.ct B) := h
theorem WS.seq {f g : Sv} (h : WS A f (sq g Q)) : WS A (sSeq f g) Q := fun ρ s => by
  obtain ⟨o, oa, e, so, h⟩ := h ρ s
  cases oa with
  | nx B =>
    cases o with
    | nx ρ1 =>
      obtain ⟨o', oa', e', so', k⟩ := h ρ1 so
      exact ⟨o', oa', by simp [e, e'], so', k⟩
    | _ => exact so.elim
  | rt w B =>
    cases o with
    | rt w' ρ1 => exact ⟨_, .rt w B, by simp [e], so, h⟩
    | _ => exact so.elim
  | bk B =>
    cases o with
    | bk ρ1 => exact ⟨_, .bk B, by simp [e], so, h⟩
    | _ => exact so.elim
  | ct B =>
    cases o with
    | ct ρ1 => exact ⟨_, .ct B, by simp [e], so, h⟩
    | _ => exact so.elim
theorem WS.next (h : Q (.nx A)) : WS A sNext Q := fun ρ s => ⟨.nx ρ, .nx A, rfl, s, h⟩
theorem WS.break_ (h : Q (.bk A)) : WS A sBreak Q := fun ρ s => ⟨.bk ρ, .bk A, rfl, s, h⟩
theorem WS.cont (h : Q (.ct A)) : WS A sCont Q := fun ρ s => ⟨.ct ρ, .ct A, rfl, s, h⟩
theorem WS.expr {f : Ev} (h : WE A f fun _ B => Q (.nx B)) : WS A (sExpr f) Q := fun ρ s => by
  obtain ⟨w, ρ1, A1, e1, s1, h⟩ := h ρ s
  exact ⟨.nx ρ1, .nx A1, by simp [e1], s1, h⟩
theorem WS.set {f : Ev} (h : WE A f fun w B => ST i B w fun C => Q (.nx C)) : WS A (sSet i f) Q := fun ρ s => by
  obtain ⟨w, ρ1, A1, e1, s1, h⟩ := h ρ s
  obtain ⟨ρ2, A2, e2, s2, h⟩ := h ρ1 s1
  exact ⟨.nx ρ2, .nx A2, by rw [e_sSet, e1]; simp only [Option.bind_some]; rw [e2]; rfl, s2, h⟩
theorem WS.asg {f : Ev} {g : Gs} (h : WE A f fun w B => RL B w fun d C => WG d C g fun C' => Q (.nx C')) : WS A (sAsg f g) Q := fun ρ s => by
  obtain ⟨w, ρ1, A1, e1, s1, h⟩ := h ρ s
  obtain ⟨d, ρ2, A2, e2, s2, h⟩ := h ρ1 s1
  obtain ⟨ρ3, A3, e3, s3, h⟩ := h ρ2 s2
  exact ⟨.nx ρ3, .nx A3, by rw [e_sAsg, e1]; simp only [Option.bind_some]; rw [e2]; simp only [Option.bind_some]; rw [e3]; rfl, s3, h⟩
theorem WS.par {f g : Ev} (h : WE A f fun w A1 => FX A1 w fun w1 A2 => WE A2 g fun w' A3 => FX A3 w' fun w2 A4 => ST i A4 w1 fun A5 => ST j A5 w2 fun A6 => Q (.nx A6)) : WS A (sPar i j f g) Q := fun ρ s => by
  obtain ⟨w, ρ1, A1, e1, s1, h⟩ := h ρ s
  obtain ⟨w1, ρ2, A2, e2, s2, h⟩ := h ρ1 s1
  obtain ⟨w', ρ3, A3, e3, s3, h⟩ := h ρ2 s2
  obtain ⟨w2, ρ4, A4, e4, s4, h⟩ := h ρ3 s3
  obtain ⟨ρ5, A5, e5, s5, h⟩ := h ρ4 s4
  obtain ⟨ρ6, A6, e6, s6, h⟩ := h ρ5 s5
  exact ⟨.nx ρ6, .nx A6, by rw [e_sPar, e1]; simp only [Option.bind_some]; rw [e2]; simp only [Option.bind_some]; rw [e3]; simp only [Option.bind_some]; rw [e4]; simp only [Option.bind_some]; rw [e5]; simp only [Option.bind_some]; rw [e6]; rfl, s6, h⟩
theorem WS.par3 {l : Nat} {f g h' : Ev} (h : WE A f fun w A1 => RL A1 w fun d1 A2 => WE A2 g fun w' A3 => FX A3 w' fun w2 A4 => WE A4 h' fun w3 A5 => RL A5 w3 fun d3 A6 => ST j (setA A6 i (.v d1)) w2 fun A7 => Q (.nx (setA A7 l (.v d3)))) : WS A (sPar3 i j l f g h') Q := fun ρ s => by
  obtain ⟨w, ρ1, A1, e1, s1, h⟩ := h ρ s
  obtain ⟨d1, ρ2, A2, e2, s2, h⟩ := h ρ1 s1
  obtain ⟨w', ρ3, A3, e3, s3, h⟩ := h ρ2 s2
  obtain ⟨w2, ρ4, A4, e4, s4, h⟩ := h ρ3 s3
  obtain ⟨w3, ρ5, A5, e5, s5, h⟩ := h ρ4 s4
  obtain ⟨d3, ρ6, A6, e6, s6, h⟩ := h ρ5 s5
  obtain ⟨ρ7, A7, e7, s7, h⟩ := h (ρ6.set i (some (.v d1))) s6.sv
  refine ⟨.nx (ρ7.set l (some (.v d3))), .nx (setA A7 l (.v d3)), ?_, s7.sv, h⟩
  rw [e_sPar3, e1]; simp only [Option.bind_some]; rw [e2]; simp only [Option.bind_some]; rw [e3]; simp only [Option.bind_some]; rw [e4]; simp only [Option.bind_some]; rw [e5]; simp only [Option.bind_some]; rw [e6]; simp only [Option.bind_some]; rw [e7]; rfl
theorem WEo.nil {K : List Opd → As → Prop} (k : K [] A) : WEo A oNil K := fun ρ s => ⟨_, ρ, A, rfl, s, k⟩
theorem WEo.cons {f : Ev} {fs : Evo} {K : List Opd → As → Prop} (h : WE A f fun w1 A1 => FX A1 w1 fun d A2 => WEo A2 fs fun ds A3 => K (d :: ds) A3) : WEo A (oCons f fs) K := fun ρ s => by
  obtain ⟨w1, ρ1, A1, e1, s1, h⟩ := h ρ s
  obtain ⟨d, ρ2, A2, e2, s2, h⟩ := h ρ1 s1
  obtain ⟨ds, ρ3, A3, e3, s3, k⟩ := h ρ2 s2
  exact ⟨d :: ds, ρ3, A3, by unfold oCons; rw [e1]; simp only [Option.bind_some]; rw [e2]; simp [e3], s3, k⟩
/-- several operands are put into slots -/
def STn : List Nat → List Opd → As → (As → Prop) → Prop := fun is ws A K => ∀ ρ, Sat A ρ → ∃ ρ' B, stN is ws ρ = some ρ' ∧ Sat B ρ' ∧ K B
theorem WS.parN {is : List Nat} {fs : Evo} (h : WEo A fs fun ws B => SZ (ws.length ≤ 1000) (STn is ws B fun C => Q (.nx C))) : WS A (sParN is fs) Q := fun ρ s => by
  obtain ⟨ws, ρ1, A1, e1, s1, hl, h⟩ := h ρ s
  obtain ⟨ρ2, A2, e2, s2, h⟩ := h ρ1 s1
  exact ⟨.nx ρ2, .nx A2, by unfold sParN; rw [e1]; simp only [Option.bind_some]; rw [if_pos hl, e2]; rfl, s2, h⟩
theorem WS.ret {f : Ev} (h : WE A f fun w B => match w with
    | .pl i => (∃ d, nthA B i = .v d ∧ Q (.rt (.val d) B)) ∨ (∃ d, nthA B i = .o d ∧ Q (.rt (.own d) (setA B i .n))) ∨ (∃ d, nthA B i = .a d ∧ Q (.rt (.val d) B) ∧ Q (.rt (.own d) (setA B i .n)))
    | w => Q (.rt w B)) : WS A (sRet f) Q := fun ρ s => by
  obtain ⟨w, ρ1, A1, e1, s1, h⟩ := h ρ s
  cases w with
  | val d => exact ⟨.rt (.val d) ρ1, .rt (.val d) A1, by simp [e1], ⟨rfl, s1⟩, h⟩
  | own d => exact ⟨.rt (.own d) ρ1, .rt (.own d) A1, by simp [e1], ⟨rfl, s1⟩, h⟩
  | pl i =>
    rcases h with ⟨d, hd, h⟩ | ⟨d, hd, h⟩ | ⟨d, hd, h, h'⟩
    · have q := (s1.get hd (by simp)).2
      simp only [Okq] at q
      exact ⟨.rt (.val d) ρ1, .rt (.val d) A1, by simp [e1, q], ⟨rfl, s1⟩, h⟩
    · have q := (s1.get hd (by simp)).2
      simp only [Okq] at q
      exact ⟨.rt (.own d) (ρ1.set i none), .rt (.own d) (setA A1 i .n), by simp [e1, q], ⟨rfl, s1.set (r := .n) (.inl rfl)⟩, h⟩
    · rcases (s1.get hd (by simp)).2 with q | q
      · exact ⟨.rt (.val d) ρ1, .rt (.val d) A1, by simp [e1, q], ⟨rfl, s1⟩, h⟩
      · exact ⟨.rt (.own d) (ρ1.set i none), .rt (.own d) (setA A1 i .n), by simp [e1, q], ⟨rfl, s1.set (r := .n) (.inl rfl)⟩, h'⟩
/-- what is told at last -/
def RTn (B : As) (w : Opd) (Q : OA → Prop) : Prop := match w with
    | .pl i => (∃ d, nthA B i = .v d ∧ Q (.rt (.val d) B)) ∨ (∃ d, nthA B i = .o d ∧ Q (.rt (.own d) (setA B i .n))) ∨ (∃ d, nthA B i = .a d ∧ Q (.rt (.val d) B) ∧ Q (.rt (.own d) (setA B i .n)))
    | w => Q (.rt w B)
theorem WS.ret' {f : Ev} (h : WE A f fun w B => RTn B w Q) : WS A (sRet f) Q := WS.ret fun ρ s => by
  obtain ⟨w, ρ1, A1, e1, s1, h⟩ := h ρ s
  refine ⟨w, ρ1, A1, e1, s1, ?_⟩
  cases w <;> exact h
theorem RTn.val (h : Q (.rt (.val d) B)) : RTn B (.val d) Q := h
theorem RTn.own (h : Q (.rt (.own d) B)) : RTn B (.own d) Q := h
theorem RTn.v (e : nthA B i = .v d) (h : Q (.rt (.val d) B)) : RTn B (.pl i) Q := .inl ⟨d, e, h⟩
theorem RTn.o (e : nthA B i = .o d) (h : Q (.rt (.own d) (setA B i .n))) : RTn B (.pl i) Q := .inr (.inl ⟨d, e, h⟩)
theorem RTn.a (e : nthA B i = .a d) (h : Q (.rt (.val d) B)) (h' : Q (.rt (.own d) (setA B i .n))) : RTn B (.pl i) Q := .inr (.inr ⟨d, e, h, h'⟩)
theorem WS.retN (h : Q (.rt (.val .non) A)) : WS A sRetN Q := fun ρ s => ⟨.rt (.val .non) ρ, .rt (.val .non) A, rfl, ⟨rfl, s⟩, h⟩
theorem WS.ite {c : Tv} {f g : Sv} (h : WT A c fun b B => (b = true → WS B f Q) ∧ (b = false → WS B g Q)) : WS A (sIfS c f g) Q := fun ρ s => by
  obtain ⟨b, ρ1, A1, e1, s1, h1, h2⟩ := h ρ s
  cases b with
  | true =>
    obtain ⟨o, oa, e2, s2, k⟩ := h1 rfl ρ1 s1
    exact ⟨o, oa, by simp [e1, e2], s2, k⟩
  | false =>
    obtain ⟨o, oa, e2, s2, k⟩ := h2 rfl ρ1 s1
    exact ⟨o, oa, by simp [e1, e2], s2, k⟩
/-! loops -/
/-- weaker knowledge of which J tells -/
def IW (J : As → Prop) (C : As) : Prop := ∃ C', Wk C C' ∧ J C'
def lp (J : As → Prop) (Q : OA → Prop) : OA → Prop
  | .nx B => IW J B
  | .ct B => IW J B
  | .bk B => Q (.nx B)
  | .rt w B => Q (.rt w B)
theorem LP.nx {J : As → Prop} (h : IW J B) : lp J Q (.nx B) := h
theorem LP.ct {J : As → Prop} (h : IW J B) : lp J Q (.ct B) := h
theorem LP.bk {J : As → Prop} (h : Q (.nx B)) : lp J Q (.bk B) := h
theorem LP.rt {J : As → Prop} (h : Q (.rt w B)) : lp J Q (.rt w B) := h
theorem for_go {g : Gs} {f : Sv} (I : Nat → As → Prop) : ∀ (ds : List D) (k : Nat) (A : As), I k A →
    (∀ n d B, ds[n]? = some d → I (k + n) B → WG d B g fun B1 => WS B1 f (lp (I (k + n + 1)) Q)) → (∀ B, I (k + ds.length) B → Q (.nx B)) → WS A (fun ρ => forL g f ds ρ) Q
  | [], k, A, h0, _, hf => fun ρ s => ⟨.nx ρ, .nx A, rfl, s, hf A h0⟩
  | d :: ds, k, A, h0, hs, hf => fun ρ s => by
    obtain ⟨ρ1, A1, e1, s1, h⟩ := hs 0 d A rfl h0 ρ s
    obtain ⟨o, oa, e2, s2, h⟩ := h ρ1 s1
    have go : ∀ B ρ2, IW (I (k + 1)) B → Sat B ρ2 → ∃ o oa, forL g f ds ρ2 = some o ∧ SatO oa o ∧ Q oa := fun B ρ2 ⟨B', wk, hB⟩ sB =>
      for_go I ds (k + 1) B' hB (fun n d B hd hn => by
        have := hs (n + 1) d B (by simpa using hd) (by rw [show k + (n + 1) = k + 1 + n by omega]; exact hn)
        rw [show k + (n + 1) = k + 1 + n by omega] at this
        exact this) (fun B h => hf B (by rw [List.length_cons, show k + (ds.length + 1) = k + 1 + ds.length by omega]; exact h)) ρ2 (wk ρ2 sB)
    cases oa with
    | nx B =>
      cases o with
      | nx ρ2 => obtain ⟨o', oa', e3, s3, k3⟩ := go B ρ2 h s2; exact ⟨o', oa', by simp [forL, e1, e2, e3], s3, k3⟩
      | _ => exact s2.elim
    | ct B =>
      cases o with
      | ct ρ2 => obtain ⟨o', oa', e3, s3, k3⟩ := go B ρ2 h s2; exact ⟨o', oa', by simp [forL, e1, e2, e3], s3, k3⟩
      | _ => exact s2.elim
    | bk B =>
      cases o with
      | bk ρ2 => exact ⟨.nx ρ2, .nx B, by simp [forL, e1, e2], s2, h⟩
      | _ => exact s2.elim
    | rt w B =>
      cases o with
      | rt w' ρ2 => exact ⟨.rt w' ρ2, .rt w B, by simp [forL, e1, e2], s2, h⟩
      | _ => exact s2.elim
/-- a loop: I k tells the slots ahead of the turn k -/
theorem WS.for_ {s : Src} {g : Gs} {f : Sv} (ds : List D) (I : Nat → As → Prop) (h0 : WR A s fun es B => es = ds ∧ IW (I 0) B)
    (hs : ∀ n d B, ds[n]? = some d → I n B → WG d B g fun B1 => WS B1 f (lp (I (n + 1)) Q)) (hf : ∀ B, I ds.length B → Q (.nx B)) : WS A (sFor s g f) Q := fun ρ sa => by
  obtain ⟨es, ρ1, A1, e1, s1, rfl, A1', wk, h0⟩ := h0 ρ sa
  have := for_go (Q := Q) I es 0 A1' h0 (fun n d B hd hi => by
    rw [Nat.zero_add] at hi ⊢
    exact hs n d B hd hi) (fun B hB => hf B (by rw [Nat.zero_add] at hB; exact hB)) ρ1 (wk ρ1 s1)
  obtain ⟨o, oa, e2, s2, k⟩ := this
  exact ⟨o, oa, by rw [e_sFor, e1]; exact e2, s2, k⟩
/-- a loop over typed things: I pre tells the slots when those of pre are done -/
theorem WS.forT {α : Type} {s : Src} {g : Gs} {f : Sv} (xs : List α) (emb : α → D) (I : List α → As → Prop) (h0 : WR A s fun es B => es = xs.map emb ∧ IW (I []) B)
    (hs : ∀ pre x post B, xs = pre ++ x :: post → I pre B → WG (emb x) B g fun B1 => WS B1 f (lp (I (pre ++ [x])) Q)) (hf : ∀ B, I xs B → Q (.nx B)) : WS A (sFor s g f) Q := by
  refine WS.for_ (xs.map emb) (fun k B => I (xs.take k) B) h0 (fun n d B hd hi => ?_) fun B hB => hf B (by rwa [List.length_map, List.take_length] at hB)
  rw [List.getElem?_map] at hd
  obtain ⟨x, hx, rfl⟩ := Option.map_eq_some_iff.mp hd
  have hn := (List.getElem?_eq_some_iff.mp hx)
  obtain ⟨hn, hx⟩ := hn
  have e : xs = xs.take n ++ x :: xs.drop (n + 1) := by
    rw [← hx, ← List.drop_eq_getElem_cons hn, List.take_append_drop]
  have e2 : xs.take (n + 1) = xs.take n ++ [x] := by rw [← hx, List.take_append_getElem hn]
  have := hs (xs.take n) x _ B e hi
  rw [e2]
  exact this
/-- .. with numbers -/
theorem WS.forE {α : Type} {s : Src} {g : Gs} {f : Sv} (xs : List α) (emb : α → D) (I : List α → As → Prop) (h0 : WR A s fun es B => es = enumF 0 (xs.map emb) ∧ IW (I []) B)
    (hs : ∀ pre x post B, xs = pre ++ x :: post → I pre B → WG (.tup [.int (pre.length : Nat), emb x]) B g fun B1 => WS B1 f (lp (I (pre ++ [x])) Q)) (hf : ∀ B, I xs B → Q (.nx B)) : WS A (sFor s g f) Q := by
  have el : ∀ (ds : List D) (k : Nat), (enumF k ds).length = ds.length := fun ds => by
    induction ds with
    | nil => intro k; rfl
    | cons d ds ih => intro k; simp [enumF, ih]
  have eg : ∀ (ds : List D) (k n : Nat) (d : D), (enumF k ds)[n]? = some d → ∃ x, ds[n]? = some x ∧ d = .tup [.int ((k + n : Nat) : Int), x] := fun ds => by
    induction ds with
    | nil => intro k n d h; simp [enumF] at h
    | cons y ds ih =>
      intro k n d h
      cases n with
      | zero => simp [enumF] at h; exact ⟨y, rfl, by simp [← h]⟩
      | succ n =>
        simp only [enumF, List.getElem?_cons_succ] at h
        obtain ⟨x, h1, h2⟩ := ih (k + 1) n d h
        exact ⟨x, by simpa using h1, by rw [h2, show k + 1 + n = k + (n + 1) by omega]⟩
  refine WS.for_ (enumF 0 (xs.map emb)) (fun k B => I (xs.take k) B) h0 (fun n d B hd hi => ?_) fun B hB => hf B (by rwa [el, List.length_map, List.take_length] at hB)
  obtain ⟨y, hy, rfl⟩ := eg _ _ _ _ hd
  rw [List.getElem?_map] at hy
  obtain ⟨x, hx, rfl⟩ := Option.map_eq_some_iff.mp hy
  obtain ⟨hn, hx⟩ := List.getElem?_eq_some_iff.mp hx
  have e : xs = xs.take n ++ x :: xs.drop (n + 1) := by
    rw [← hx, ← List.drop_eq_getElem_cons hn, List.take_append_drop]
  have e2 : xs.take (n + 1) = xs.take n ++ [x] := by rw [← hx, List.take_append_getElem hn]
  have := hs (xs.take n) x _ B e hi
  rw [List.length_take, Nat.min_eq_left (by omega)] at this
  rw [e2, Nat.zero_add]
  exact this
/-- .. over range(n) -/
theorem WS.forN {s : Src} {g : Gs} {f : Sv} (n : Nat) (I : Nat → As → Prop) (h0 : WR A s fun es B => es = rngF 0 n ∧ IW (I 0) B)
    (hs : ∀ k B, k < n → I k B → WG (.int (k : Nat)) B g fun B1 => WS B1 f (lp (I (k + 1)) Q)) (hf : ∀ B, I n B → Q (.nx B)) : WS A (sFor s g f) Q := by
  refine WS.for_ (rngF 0 n) I h0 (fun k d B hd hi => ?_) fun B hB => hf B (by simpa [rngF] using hB)
  unfold rngF at hd
  rw [List.getElem?_map] at hd
  obtain ⟨m, hm, rfl⟩ := Option.map_eq_some_iff.mp hd
  obtain ⟨hn, hm⟩ := List.getElem?_eq_some_iff.mp hm
  simp at hn hm
  subst hm
  rw [Int.zero_add]
  exact hs k B hn hi
theorem while_go {c : Tv} {f : Sv} (I : Nat → As → Prop) (hs : ∀ m B, I m B → WT B c fun b B1 => (b = true → ∃ m', m = m' + 1 ∧ WS B1 f (lp (I m') Q)) ∧ (b = false → Q (.nx B1))) : ∀ (m n : Nat) (A : As), m < n → I m A → WS A (fun ρ => whL c f n ρ) Q
  | m, 0, A, hn, _ => absurd hn (Nat.not_lt_zero _)
  | m, n + 1, A, hn, h => fun ρ s => by
    obtain ⟨b, ρ1, A1, e1, s1, h1, h2⟩ := hs m A h ρ s
    cases b with
    | false => exact ⟨.nx ρ1, .nx A1, by simp [whL, e1], s1, h2 rfl⟩
    | true =>
      obtain ⟨m', rfl, h3⟩ := h1 rfl
      obtain ⟨o, oa, e2, s2, h⟩ := h3 ρ1 s1
      cases oa with
      | nx B =>
        cases o with
        | nx ρ2 => obtain ⟨B', wk, h⟩ := h; obtain ⟨o', oa', e3, s3, k3⟩ := while_go I hs m' n B' (by omega) h ρ2 (wk ρ2 s2); exact ⟨o', oa', by simp [whL, e1, e2, e3], s3, k3⟩
        | _ => exact s2.elim
      | ct B =>
        cases o with
        | ct ρ2 => obtain ⟨B', wk, h⟩ := h; obtain ⟨o', oa', e3, s3, k3⟩ := while_go I hs m' n B' (by omega) h ρ2 (wk ρ2 s2); exact ⟨o', oa', by simp [whL, e1, e2, e3], s3, k3⟩
        | _ => exact s2.elim
      | bk B =>
        cases o with
        | bk ρ2 => exact ⟨.nx ρ2, .nx B, by simp [whL, e1, e2], s2, h⟩
        | _ => exact s2.elim
      | rt w B =>
        cases o with
        | rt w' ρ2 => exact ⟨.rt w' ρ2, .rt w B, by simp [whL, e1, e2], s2, h⟩
        | _ => exact s2.elim
/-- a while loop: I m: at most m turns are left -/
theorem WS.while_ {c : Tv} {f : Sv} {n : Nat} (I : Nat → As → Prop) (m : Nat) (hn : m < n) (h0 : IW (I m) A) (hs : ∀ m B, I m B → WT B c fun b B1 => (b = true → ∃ m', m = m' + 1 ∧ WS B1 f (lp (I m') Q)) ∧ (b = false → Q (.nx B1))) : WS A (whL c f n) Q := fun ρ s => by
  obtain ⟨A', wk, h0⟩ := h0
  exact while_go I hs m n A' hn h0 ρ (wk ρ s)
end
end Bl
namespace Bl
open PySem PySem.Spec PyProof.Rows L2 Evl
/-! ### comprehensions -/
def maskA : List Nat → As → As
  | [], A => A
  | v :: vs, A => setA (maskA vs A) v .n
def unmaskA : List Nat → As → As → As
  | [], _, A => A
  | v :: vs, A0, A => setA (unmaskA vs A0 A) v (nthA A0 v)
section
variable {A B : As} {i j : Nat} {d : D} {w : Opd}
theorem Sat.mask : ∀ {vs : List Nat} {A : As} {ρ : En}, Sat A ρ → Sat (maskA vs A) (mask vs ρ)
  | [], _, _, h => h
  | v :: vs, _, _, h => (Sat.mask (vs := vs) h).set (r := .n) (.inl rfl)
theorem Sat.unmask : ∀ {vs : List Nat} {A A0 : As} {ρ ρ0 : En}, Sat A0 ρ0 → Sat A ρ → Sat (unmaskA vs A0 A) (unmask vs ρ0 ρ)
  | [], _, _, _, _, _, h => h
  | v :: vs, A, A0, ρ, ρ0, h0, h => by
    refine (Sat.unmask (vs := vs) h0 h).set ?_
    by_cases q : v < A0.length
    · have := h0.at_ v q
      have hv : v < ρ0.length := by rw [h0.len]; exact q
      rw [List.getD_eq_getElem?_getD]
      cases e : ρ0[v]? with
      | none => rw [List.getElem?_eq_none_iff] at e; omega
      | some x => rw [e] at this; exact this
    · rw [nth_out A0 v (by omega)]; trivial
theorem lc_go {α : Type} {vs : List Nat} {g : Gs} {t : Tv} {f : Ev} (I : List α → List D → As → Prop) (emb : α → D) : ∀ (xs pre : List α) (acc : List D) (A : As), I pre acc A → acc.length + xs.length ≤ 1000000 →
    (∀ p x q acc C, pre ++ xs = p ++ x :: q → I p acc C → WG (emb x) C g fun C1 => WT C1 t fun b C2 => (b = true → WE C2 f fun w C3 => RL C3 w fun d C4 => IW (I (p ++ [x]) (acc ++ [d])) (maskA vs C4)) ∧ (b = false → IW (I (p ++ [x]) acc) (maskA vs C2))) →
    ∀ ρ, Sat A ρ → ∃ acc' ρ' C, lcL vs g t f (xs.map emb) acc ρ = some (acc', ρ') ∧ Sat C ρ' ∧ I (pre ++ xs) acc' C
  | [], pre, acc, A, h0, _, _, ρ, s => ⟨acc, ρ, A, rfl, s, by rw [List.append_nil]; exact h0⟩
  | x :: xs, pre, acc, A, h0, hl, hs, ρ, s => by
    have hl' : acc.length + xs.length + 1 ≤ 1000000 := by simpa [Nat.add_assoc] using hl
    obtain ⟨ρ1, A1, e1, s1, h⟩ := hs pre x xs acc A rfl h0 ρ s
    obtain ⟨b, ρ2, A2, e2, s2, h1, h2⟩ := h ρ1 s1
    have step : ∀ p y q acc C, (pre ++ [x]) ++ xs = p ++ y :: q → I p acc C → _ := fun p y q acc C e => hs p y q acc C (by rw [← e]; simp)
    cases b with
    | false =>
      have lg : lcL vs g t f ((x :: xs).map emb) acc ρ = lcL vs g t f (xs.map emb) acc (mask vs ρ2) := by simp [lcL, e1, e2]
      obtain ⟨C', wk, hI⟩ := h2 rfl
      obtain ⟨acc', ρ', C, e3, s4, hI⟩ := lc_go I emb xs (pre ++ [x]) acc _ hI (by omega) step _ (wk _ (s2.mask (vs := vs)))
      exact ⟨acc', ρ', C, by rw [lg, e3], s4, by rw [List.append_assoc] at hI; exact hI⟩
    | true =>
      obtain ⟨w, ρ3, A3, e3, s3, h⟩ := h1 rfl ρ2 s2
      obtain ⟨d, ρ4, A4, e4, s4, C', wk, hI⟩ := h ρ3 s3
      have hz : acc.length < 1000000 := by omega
      have lg : lcL vs g t f ((x :: xs).map emb) acc ρ = lcL vs g t f (xs.map emb) (acc ++ [d]) (mask vs ρ4) := by
        rw [List.map_cons, lcL, e1]; simp only [Option.bind_some]; rw [e2]; simp only [Option.bind_some]; rw [if_pos trivial, e3]; simp only [Option.bind_some]; rw [e4]; simp only [Option.bind_some]; rw [if_pos hz]
      obtain ⟨acc', ρ', C, e5, s5, hI⟩ := lc_go I emb xs (pre ++ [x]) (acc ++ [d]) _ hI (by simp; omega) step _ (wk _ (s4.mask (vs := vs)))
      exact ⟨acc', ρ', C, by rw [lg, e5], s5, by rw [List.append_assoc] at hI; exact hI⟩
variable {K : Opd → As → Prop}
/-- a comprehension, with what is kept told by I -/
theorem WE.lcI {α : Type} {s : Src} {ms vs : List Nat} {g : Gs} {t : Tv} {f : Ev} (xs : List α) (emb : α → D) (I : List α → List D → As → Prop)
    (h0 : WR A s fun ds A1 => ds = xs.map emb ∧ IW (I [] []) (maskA (ms ++ vs) A1) ∧ ∀ acc C, I xs acc C → K (.own (.lst acc)) (unmaskA (ms ++ vs) A1 C)) (hl : xs.length ≤ 1000000)
    (hs : ∀ p x q acc C, xs = p ++ x :: q → I p acc C → WG (emb x) C g fun C1 => WT C1 t fun b C2 => (b = true → WE C2 f fun w C3 => RL C3 w fun d C4 => IW (I (p ++ [x]) (acc ++ [d])) (maskA vs C4)) ∧ (b = false → IW (I (p ++ [x]) acc) (maskA vs C2))) : WE A (sLc s ms vs g t f) K := fun ρ sa => by
  obtain ⟨ds, ρ1, A1, e1, s1, rfl, ⟨C0, wk, h0⟩, hk⟩ := h0 ρ sa
  obtain ⟨acc, ρ2, C, e2, s2, hI⟩ := lc_go I emb xs [] [] _ h0 (by simpa using hl) hs _ (wk _ (s1.mask (vs := ms ++ vs)))
  exact ⟨_, _, _, by rw [e_sLc, e1]; simp only [Option.bind_some]; rw [e2]; rfl, s1.unmask (vs := ms ++ vs) s2, hk acc C hI⟩
theorem filter_snoc {α : Type} {p : α → Bool} {l : List α} {x : α} : (l ++ [x]).filter p = if p x = true then l.filter p ++ [x] else l.filter p := by
  rw [List.filter_append]
  by_cases h : p x = true <;> simp [h]
/-- the walked things as they are asked for, the slots, then on -/
def SRC (ds es : List D) (W K : Prop) : Prop := ds = es ∧ W ∧ K
theorem SRC.mk {ds es : List D} {W K : Prop} (e : ds = es) (w : W) (k : K) : SRC ds es W K := ⟨e, w, k⟩
/-- one turn: the test as it is asked, then both ways -/
def LC1 (b p : Bool) (T F : Prop) : Prop := b = p ∧ (p = true → T) ∧ (p = false → F)
theorem LC1.mk {b p : Bool} {T F : Prop} (e : b = p) (t : p = true → T) (f : p = false → F) : LC1 b p T F := ⟨e, t, f⟩
def EK (d e : D) (W : Prop) : Prop := d = e ∧ W
theorem EK.mk {d e : D} {W : Prop} (h : d = e) (w : W) : EK d e W := ⟨h, w⟩
/-- a comprehension whose turns change nothing that B tells -/
theorem WE.lc {α : Type} {s : Src} {ms vs : List Nat} {g : Gs} {t : Tv} {f : Ev} (B : As) (xs : List α) (emb : α → D) (p : α → Bool) (h : α → D)
    (h0 : WR A s fun ds A1 => SRC ds (xs.map emb) (Wk (maskA (ms ++ vs) A1) B) (K (.own (.lst ((xs.filter p).map h))) (unmaskA (ms ++ vs) A1 B))) (hl : xs.length ≤ 1000000)
    (hs : ∀ x, x ∈ xs → WG (emb x) B g fun C1 => WT C1 t fun b C2 => LC1 b (p x) (WE C2 f fun w C3 => RL C3 w fun d C4 => EK d (h x) (Wk (maskA vs C4) B)) (Wk (maskA vs C2) B)) : WE A (sLc s ms vs g t f) K := by
  refine WE.lcI xs emb (fun pre acc C => acc = (pre.filter p).map h ∧ C = B) (fun ρ sa => ?_) hl fun q x r acc C e hI ρ sa => ?_
  · obtain ⟨ds, ρ1, A1, e1, s1, rfl, hw, hk⟩ := h0 ρ sa
    exact ⟨_, ρ1, A1, e1, s1, rfl, ⟨B, hw, rfl, rfl⟩, fun acc C ⟨h1, h2⟩ => by subst h1; subst h2; exact hk⟩
  · obtain ⟨rfl, rfl⟩ := hI
    obtain ⟨ρ1, C1, e1, s1, h⟩ := hs x (by rw [e]; simp) ρ sa
    refine ⟨ρ1, C1, e1, s1, fun ρ1 s1 => ?_⟩
    obtain ⟨b, ρ2, C2, e2, s2, rfl, h1, h2⟩ := h ρ1 s1
    refine ⟨_, ρ2, C2, e2, s2, fun hb ρ3 s3 => ?_, fun hb => ?_⟩
    · obtain ⟨w, ρ3, C3, e3, s3, h⟩ := h1 hb ρ3 s3
      refine ⟨w, ρ3, C3, e3, s3, fun ρ4 s4 => ?_⟩
      obtain ⟨d, ρ4, C4, e4, s4, rfl, wk⟩ := h ρ4 s4
      refine ⟨_, ρ4, C4, e4, s4, C, wk, ?_, rfl⟩
      rw [filter_snoc, if_pos hb]; simp
    · exact ⟨C, h2 hb, by rw [filter_snoc, if_neg (by simp [hb])], rfl⟩
/-- .. without a test -/
theorem WE.map {α : Type} {s : Src} {ms vs : List Nat} {g : Gs} {f : Ev} (B : As) (xs : List α) (emb : α → D) (h : α → D)
    (h0 : WR A s fun ds A1 => SRC ds (xs.map emb) (Wk (maskA (ms ++ vs) A1) B) (K (.own (.lst (xs.map h))) (unmaskA (ms ++ vs) A1 B))) (hl : xs.length ≤ 1000000)
    (hs : ∀ x, x ∈ xs → WG (emb x) B g fun C2 => WE C2 f fun w C3 => RL C3 w fun d C4 => EK d (h x) (Wk (maskA vs C4) B)) : WE A (sLc s ms vs g sYes f) K := by
  refine WE.lc B xs emb (fun _ => true) h (by rw [show xs.filter (fun _ => true) = xs by simp]; exact h0) hl fun x hx ρ sa => ?_
  obtain ⟨ρ1, C1, e1, s1, h⟩ := hs x hx ρ sa
  exact ⟨ρ1, C1, e1, s1, WT.yes ⟨rfl, fun _ => h, fun z => by cases z⟩⟩
/-! ### two walks -/
theorem WE.lc2 {α β : Type} {s : Src} {ms vs vs1 : List Nat} {g : Gs} {t : Tv} {s1 : Src} {g1 : Gs} {t1 : Tv} {f : Ev} (B : As) (xs : List α) (emb : α → D) (p : α → Bool) (ys : α → List β) (emb1 : α → β → D) (p1 : α → β → Bool) (h : α → β → D) (B1 : α → As)
    (h0 : WR A s fun ds A1 => SRC ds (xs.map emb) (Wk (maskA (ms ++ vs) A1) B) (K (.own (.lst ((xs.filter p).flatMap fun x => ((ys x).filter (p1 x)).map (h x)))) (unmaskA (ms ++ vs) A1 B))) (N : Nat) (hl : xs.length * N ≤ 1000000) (hy : ∀ x, x ∈ xs → (ys x).length ≤ N)
    (hs : ∀ x, x ∈ xs → WG (emb x) B g fun C1 => WT C1 t fun b C2 => LC1 b (p x) (WR C2 s1 fun ds C3 => SRC ds ((ys x).map (emb1 x)) (Wk (maskA vs1 C3) (B1 x)) (Wk (maskA vs (B1 x)) B)) (Wk (maskA vs C2) B))
    (hs1 : ∀ x, x ∈ xs → p x = true → ∀ y, y ∈ ys x → WG (emb1 x y) (B1 x) g1 fun E1 => WT E1 t1 fun b E2 => LC1 b (p1 x y) (WE E2 f fun w E3 => RL E3 w fun d E4 => EK d (h x y) (Wk (maskA vs1 E4) (B1 x))) (Wk (maskA vs1 E2) (B1 x))) : WE A (sLc2 s ms vs vs1 g t s1 g1 t1 f) K := fun ρ sa => by
  obtain ⟨ds, ρ1, A1, e1, sat1, rfl, wk0, hk⟩ := h0 ρ sa
  have inner : ∀ x, x ∈ xs → p x = true → ∀ (acc : List D) (C3 : As) (ρ : En), acc.length + (ys x).length ≤ 1000000 → Sat (B1 x) ρ → ∃ ρ', lcL vs1 g1 t1 f ((ys x).map (emb1 x)) acc ρ = some (acc ++ ((ys x).filter (p1 x)).map (h x), ρ') ∧ Sat (B1 x) ρ' := fun x hx hp acc C3 ρ hl s => by
    obtain ⟨acc', ρ', C, e, sC, h1, h2⟩ := lc_go (vs := vs1) (g := g1) (t := t1) (f := f) (fun pre acc' C => acc' = acc ++ (pre.filter (p1 x)).map (h x) ∧ C = B1 x) (emb1 x) (ys x) [] acc (B1 x) ⟨by simp, rfl⟩ hl (fun q y r acc' C e hI ρ sa => by
      obtain ⟨rfl, rfl⟩ := hI
      obtain ⟨ρ1, C1, e1, s1, h⟩ := hs1 x hx hp y (by rw [show ys x = q ++ y :: r from e]; simp) ρ sa
      refine ⟨ρ1, C1, e1, s1, fun ρ1 s1 => ?_⟩
      obtain ⟨b, ρ2, C2, e2, s2, rfl, h1, h2⟩ := h ρ1 s1
      refine ⟨_, ρ2, C2, e2, s2, fun hb ρ3 s3 => ?_, fun hb => ?_⟩
      · obtain ⟨w, ρ3, C3, e3, s3, h⟩ := h1 hb ρ3 s3
        refine ⟨w, ρ3, C3, e3, s3, fun ρ4 s4 => ?_⟩
        obtain ⟨d, ρ4, C4, e4, s4, rfl, wk⟩ := h ρ4 s4
        refine ⟨_, ρ4, C4, e4, s4, B1 x, wk, ?_, rfl⟩
        rw [filter_snoc, if_pos hb]; simp
      · exact ⟨B1 x, h2 hb, by rw [filter_snoc, if_neg (by simp [hb])], rfl⟩) ρ s
    subst h2
    refine ⟨ρ', by rw [e, h1]; simp, sC⟩
  have outer : ∀ (zs : List α) (acc : List D) (ρ : En), (∀ x ∈ zs, x ∈ xs) → acc.length + zs.length * N ≤ 1000000 → Sat B ρ → ∃ ρ', lcL2 vs vs1 g t s1 g1 t1 f (zs.map emb) acc ρ = some (acc ++ ((zs.filter p).flatMap fun x => ((ys x).filter (p1 x)).map (h x)), ρ') ∧ Sat B ρ' := fun zs => by
    induction zs with
    | nil => exact fun acc ρ _ _ s => ⟨ρ, by simp [lcL2], s⟩
    | cons x zs ih =>
      intro acc ρ hz hl s
      have hx := hz x (List.mem_cons_self ..)
      have hN := hy x hx
      rw [List.length_cons, Nat.succ_mul] at hl
      obtain ⟨ρ1, C1, e1, s1, h'⟩ := hs x hx ρ s
      obtain ⟨b, ρ2, C2, e2, s2, hb, h2, h1⟩ := h' ρ1 s1
      by_cases hp : p x = true
      · obtain ⟨ds, ρ3, C3, e3, s3, rfl, wk1, wk2⟩ := h2 hp ρ2 s2
        obtain ⟨ρ4, e4, s4⟩ := inner x hx hp acc C3 (mask vs1 ρ3) (by omega) (wk1 _ (s3.mask (vs := vs1)))
        have fl : (((ys x).filter (p1 x)).map (h x)).length ≤ N := by
          rw [List.length_map]; exact Nat.le_trans (List.length_filter_le _ _) hN
        obtain ⟨ρ5, e5, s5⟩ := ih (acc ++ ((ys x).filter (p1 x)).map (h x)) (mask vs ρ4) (fun y hy => hz y (List.mem_cons_of_mem _ hy)) (by rw [List.length_append]; omega) (wk2 _ (s4.mask (vs := vs)))
        refine ⟨ρ5, ?_, s5⟩
        rw [List.map_cons, lcL2, e1]; simp only [Option.bind_some]; rw [e2]; simp only [Option.bind_some]; rw [if_pos (hb.trans hp), e3]; simp only [Option.bind_some]; rw [e4]; simp only [Option.bind_some]; rw [e5]
        simp [List.filter_cons, hp]
      · have hp' : p x = false := by simpa using hp
        obtain ⟨ρ5, e5, s5⟩ := ih acc (mask vs ρ2) (fun y hy => hz y (List.mem_cons_of_mem _ hy)) (by omega) (h1 hp' _ (s2.mask (vs := vs)))
        refine ⟨ρ5, ?_, s5⟩
        rw [List.map_cons, lcL2, e1]; simp only [Option.bind_some]; rw [e2]; simp only [Option.bind_some]; rw [if_neg (by rw [hb, hp']; simp), e5]
        simp [List.filter_cons, hp']
  obtain ⟨ρ2, e2, s2⟩ := outer xs [] (mask (ms ++ vs) ρ1) (fun _ h => h) (by simpa using hl) (wk0 _ (sat1.mask (vs := ms ++ vs)))
  exact ⟨_, _, _, by rw [e_sLc2, e1]; simp only [Option.bind_some]; rw [e2, List.nil_append]; rfl, sat1.unmask (vs := ms ++ vs) s2, hk⟩
/-! ### a def -/
def startA : Nat → List D → As
  | 0, _ => []
  | n + 1, [] => .n :: startA n []
  | n + 1, d :: ds => .v d :: startA n ds
theorem sat_start : ∀ (n : Nat) (ds : List D), ds.length ≤ n → Sat (startA n ds) (startE n ds)
  | 0, [], _ => ⟨rfl, fun i hi => absurd hi (by simp [startA])⟩
  | 0, _ :: _, h => by simp at h
  | n + 1, [], _ => by
    have ih := sat_start n [] (by simp)
    refine ⟨by simpa [startA, startE, List.replicate] using ih.len, fun i hi => ?_⟩
    cases i with
    | zero => exact .inl rfl
    | succ i => exact ih.at_ i (by simpa [startA] using hi)
  | n + 1, d :: ds, h => by
    have ih := sat_start n ds (by simpa using h)
    have e : startE (n + 1) (d :: ds) = some (.v d) :: startE n ds := by
      unfold startE
      rw [List.length_cons, Nat.add_sub_add_right]; rfl
    rw [e]
    refine ⟨by simp only [List.length_cons, startA, ih.len], fun i hi => ?_⟩
    cases i with
    | zero => rfl
    | succ i => exact ih.at_ i (by simpa [startA] using hi)
/-- what a def tells -/
def PP (P : Opd → Prop) : OA → Prop
  | .rt w _ => P w
  | .nx _ => P (.val .non)
  | _ => False
theorem PP.rt {P : Opd → Prop} (h : P w) : PP P (.rt w B) := h
theorem PP.nx {P : Opd → Prop} (h : P (.val .non)) : PP P (.nx B) := h
theorem runP_ws {n : Nat} {f : Sv} {ds : List D} (hn : ds.length ≤ n) (h : WS (startA n ds) f (PP fun w' => w' = w)) : runP n f ds = some w := by
  obtain ⟨o, oa, e, so, q⟩ := h _ (sat_start n ds hn)
  unfold runP
  rw [e]
  cases oa with
  | rt w' A =>
    cases o with
    | rt w'' ρ => obtain ⟨rfl, _⟩ := so; cases q; rfl
    | _ => exact so.elim
  | nx A =>
    cases o with
    | nx ρ => cases q; rfl
    | _ => exact so.elim
  | _ => exact q.elim
theorem runP_ex {n : Nat} {f : Sv} {ds : List D} {P : Opd → Prop} (hn : ds.length ≤ n) (h : WS (startA n ds) f (PP P)) : ∃ w, runP n f ds = some w ∧ P w := by
  obtain ⟨o, oa, e, so, q⟩ := h _ (sat_start n ds hn)
  unfold runP
  rw [e]
  cases oa with
  | rt w' A =>
    cases o with
    | rt w'' ρ => obtain ⟨rfl, _⟩ := so; exact ⟨_, rfl, q⟩
    | _ => exact so.elim
  | nx A =>
    cases o with
    | nx ρ => exact ⟨_, rfl, q⟩
    | _ => exact so.elim
  | _ => exact q.elim
/-- .. of a def with the source of draws -/
def PI (P : Opd → D → Prop) : OA → Prop
  | .rt w A => ∃ b, nthA A 0 = .o b ∧ P w b
  | .nx A => ∃ b, nthA A 0 = .o b ∧ P (.val .non) b
  | _ => False
theorem PI.rt {P : Opd → D → Prop} {b : D} (e : nthA B 0 = .o b) (h : P w b) : PI P (.rt w B) := ⟨b, e, h⟩
theorem PI.nx {P : Opd → D → Prop} {b : D} (e : nthA B 0 = .o b) (h : P (.val .non) b) : PI P (.nx B) := ⟨b, e, h⟩
theorem runI_ex {n : Nat} {f : Sv} {b : D} {ds : List D} {P : Opd → D → Prop} (hn : ds.length ≤ n - 1) (h : WS (.o b :: startA (n - 1) ds) f (PI P)) : ∃ w b', runI n f b ds = some (w, b') ∧ P w b' := by
  have s0 := sat_start (n - 1) ds hn
  have st : Sat (.o b :: startA (n - 1) ds) (startI n b ds) := by
    have e : startI n b ds = some (.o b) :: startE (n - 1) ds := by
      unfold startI startE
      rw [show n - (ds.length + 1) = n - 1 - ds.length by omega]
    rw [e]
    refine ⟨by rw [List.length_cons, List.length_cons, s0.len], fun i hi => ?_⟩
    cases i with
    | zero => rfl
    | succ i => exact s0.at_ i (by simpa using hi)
  obtain ⟨o, oa, e, so, q⟩ := h _ st
  unfold runI
  rw [e]
  have g : ∀ {A : As} {ρ : En} {b' : D}, Sat A ρ → nthA A 0 = .o b' → ρ[0]? = some (some (.o b')) := fun s e => (s.get e (by simp)).2
  cases oa with
  | rt w' A =>
    cases o with
    | rt w'' ρ =>
      obtain ⟨rfl, sa⟩ := so
      obtain ⟨b', e', h⟩ := q
      exact ⟨_, b', by simp only [g sa e'], h⟩
    | _ => exact so.elim
  | nx A =>
    cases o with
    | nx ρ =>
      obtain ⟨b', e', h⟩ := q
      exact ⟨_, b', by simp only [g so e'], h⟩
    | _ => exact so.elim
  | _ => exact q.elim
theorem runI_ws {n : Nat} {f : Sv} {b : D} {ds : List D} {P : Opd → D → Prop} (hn : ds.length ≤ n) (h : WS (.o b :: startA n ds) f (PI P)) : ∃ w b', runI (n + 1) f b ds = some (w, b') ∧ P w b' := runI_ex (n := n + 1) hn h
end
end Bl
/-! What operators tell. -/
namespace Bl
open PySem PySem.Spec PyProof.Rows L2 Evl
section
variable {A B : As} {i j : Int} {K : Opd → Prop} {a b : List D} {x y : Str}
theorem CL.addI (k : K (.val (.int (i + j)))) : CL (addU (.int i) (.int j)) K := CL.mk addU_i k
theorem CL.addL (h : a.length + b.length ≤ 1000000) (k : K (.own (.lst (a ++ b)))) : CL (addU (.lst a) (.lst b)) K := CL.mk (by rw [addU_l, if_pos h]) k
theorem CL.addT (h : a.length + b.length ≤ 1000000 ∧ allP (a ++ b) = false) (k : K (.val (.tup (a ++ b)))) : CL (addU (.tup a) (.tup b)) K := CL.mk (by rw [addU_t, if_pos h]) k
theorem CL.sub (k : K (.val (.int (i - j)))) : CL (subO (.int i) (.int j)) K := CL.mk rfl k
theorem CL.mulR (h : -(2 ^ 64) < j ∧ j < 2 ^ 64) (k : K (.val (.int (i * j)))) : CL (mulU (.int i) (.int j)) K := CL.mk (by rw [mulU_i, mulI, if_pos (.inr h)]; rfl) k
theorem CL.mulL (h : -(2 ^ 64) < i ∧ i < 2 ^ 64) (k : K (.val (.int (i * j)))) : CL (mulU (.int i) (.int j)) K := CL.mk (by rw [mulU_i, mulI, if_pos (.inl h)]; rfl) k
theorem CL.rep {n : Nat} (h : n < 1000 ∧ a.length ≤ 1000) (k : K (.own (.lst (List.replicate n a).flatten))) : CL (mulU (.lst a) (.int n)) K := CL.mk (by rw [mulU_l, if_pos ⟨by omega, by omega, h.2⟩]; simp) k
theorem CL.repB {z : Bool} (h : a.length ≤ 1000) (k : K (.own (.lst (if z = true then a else [])))) : CL (mulU (.lst a) (.int (if z = true then 1 else 0))) K := CL.mk (by rw [mulU_l, if_pos ⟨by split <;> decide, by split <;> decide, h⟩]; cases z <;> simp) k
theorem CL.fdiv (h : 0 < j ∧ j < 1073741824) (k : K (.val (.int (i / j)))) : CL (iOp fdivI (.int i) (.int j)) K := CL.mk (by rw [e_iOp_1, fdivI, if_pos h]; rfl) k
theorem CL.mod (h : 0 < j) (k : K (.val (.int (i % j)))) : CL (iOp modI (.int i) (.int j)) K := CL.mk (by rw [e_iOp_1, modI, if_pos h]; rfl) k
theorem CL.ltI (k : K (.val (.bl (decide (i < j))))) : CL (ltU (.int i) (.int j)) K := CL.mk ltU_i k
theorem CL.ltS (k : K (.val (.bl (decide (x.cps.toList < y.cps.toList))))) : CL (ltU (.str x) (.str y)) K := CL.mk ltU_s k
theorem CL.cmp {g : Int → Int → Bool} (k : K (.val (.bl (g i j)))) : CL (iCmp g (.int i) (.int j)) K := CL.mk rfl k
theorem CL.eqI (k : K (.val (.bl (decide (i = j))))) : CL (eqO (.int i) (.int j)) K := CL.mk (eqO_int i j) k
theorem CL.eqB {p q : Bool} (k : K (.val (.bl (decide (p = q))))) : CL (eqO (.bl p) (.bl q)) K := CL.mk (eqO_bl p q) k
theorem CL.eqS (hx : gs x) (hy : gs y) (k : K (.val (.bl (decide (x = y))))) : CL (eqO (.str x) (.str y)) K := CL.mk (eqO_str hx hy) k
theorem CL.atL {ds : List D} {d : D} (h : atI ds i = some d) (k : K (.val d)) : CL (ixSeq (.lst ds) (.int i)) K := CL.mk (by rw [ixSeq_l, h]; rfl) k
theorem CL.atT {ds : List D} {d : D} (h : atI ds i = some d) (k : K (.val d)) : CL (ixSeq (.tup ds) (.int i)) K := CL.mk (by rw [ixSeq_t, h]; rfl) k
theorem CL.getS {ks : List (Key × D)} {d : D} (h : getK ks (.inr x) = some d) (k : K (.val d)) : CL (ixDic (.dic ks) (.str x)) K := CL.mk (by rw [ixDic_e, e_keyD_2]; simp only [Option.bind_some]; rw [h]; rfl) k
theorem CL.inD {ks : List (Key × D)} (k : K (.val (.bl (getK ks (.inr x)).isSome))) : CL (inDic false (.str x) (.dic ks)) K := CL.mk (by rw [inDic_e]; rfl) k
theorem CL.ninD {ks : List (Key × D)} (k : K (.val (.bl (!(getK ks (.inr x)).isSome)))) : CL (inDic true (.str x) (.dic ks)) K := CL.mk (by rw [inDic_e]; rfl) k
theorem CL.isN {d : D} (k : K (.val (.bl (isNonD d)))) : CL (isO d .non) K := CL.mk rfl k
theorem CL.isntN {d : D} (k : K (.val (.bl (!isNonD d)))) : CL (isntO d .non) K := CL.mk rfl k
theorem CL.lenL {ds : List D} (k : K (.val (.int ds.length))) : CL (lenD (.lst ds)) K := CL.mk rfl k
theorem CL.lenT {ds : List D} (k : K (.val (.int ds.length))) : CL (lenD (.tup ds)) K := CL.mk rfl k
theorem CL.intI (k : K (.val (.int i))) : CL (intD (.int i)) K := CL.mk rfl k
theorem CL.intB {z : Bool} (k : K (.val (.int (if z = true then 1 else 0)))) : CL (intD (.bl z)) K := CL.mk rfl k
theorem CL.listL {ds : List D} (k : K (.own (.lst ds))) : CL (listD (.lst ds)) K := CL.mk rfl k
theorem CL.listT {ds : List D} (k : K (.own (.lst ds))) : CL (listD (.tup ds)) K := CL.mk rfl k
theorem CL.tupL {ds : List D} (k : K (.val (.tup ds))) : CL (tupleD (.lst ds)) K := CL.mk rfl k
theorem CL.tupT {ds : List D} (k : K (.val (.tup ds))) : CL (tupleD (.tup ds)) K := CL.mk rfl k
theorem bools_all {α : Type} (p : α → Bool) : ∀ l : List α, bools (l.map fun a => D.bl (p a)) = some (l.map p)
  | [] => rfl
  | a :: l => by simp [bools_all p l]
theorem CL.all {α : Type} {p : α → Bool} {l : List α} (k : K (.val (.bl (l.all p)))) : CL (allD (.lst (l.map fun a => D.bl (p a)))) K := CL.mk (by rw [e_allD_1, bools_all]; simp [List.all_map, Function.comp_def]) k
theorem CL.fld {c : Str} {n : Nat} {fs : List (Option D)} {d : D} (h : fs[n]? = some (some d)) (k : K (.val d)) : CL (fldO c n (.obj c fs)) K := CL.mk (by rw [e_fldO_1, if_pos rfl, h]) k
theorem CL.lstD {ks : List (Key × D)} (k : K (.own (.lst (ks.map fun kv => dOf kv.1)))) : CL (listDicO (.dic ks)) K := CL.mk rfl k
theorem CL.isi {ns : List String} {d : D} {z : Bool} (h : isiO ns d = some (.val (.bl z))) (k : K (.val (.bl z))) : CL (isiO ns d) K := CL.mk h k
theorem CL.cutL {lo hi : Option Int} {ds : List D} (k : K (.own (.lst (cutD ds lo hi)))) : CL (cutO lo hi (.lst ds)) K := CL.mk rfl k
theorem CL.cutT {lo hi : Option Int} {ds : List D} (h : allP (cutD ds lo hi) = false) (k : K (.val (.tup (cutD ds lo hi)))) : CL (cutO lo hi (.tup ds)) K := CL.mk (by rw [e_cutO_2, h]; rfl) k
theorem strsD_all : ∀ l : List Str, strsD (l.map D.str) = some l
  | [] => rfl
  | x :: l => by simp [strsD_all l]
theorem CL.sortSet {l : List Str} (h : l.length < 4000) (k : K (.own (.lst ((sortS (uniq l)).map D.str)))) : CL (sortSetO (.lst (l.map D.str))) K := CL.mk (by rw [e_sortSetO_1, strsD_all]; simp only [Option.bind_some]; rw [if_pos h]) k
theorem CL.sortT {l : List Str} (h : l.length ≤ 100000) (k : K (.own (.lst ((sortS l).map D.str)))) : CL (sortU (.tup (l.map D.str))) K := CL.mk (by rw [sortU_t, strsD_all]; simp only [Option.bind_some]; rw [if_pos h]) k
theorem CL.keyS {K : Key → Prop} (k : K (.inr x)) : CL (keyD (.str x)) K := ⟨_, rfl, k⟩
theorem CL.keyI {K : Key → Prop} (k : K (.inl i)) : CL (keyD (.int i)) K := ⟨_, rfl, k⟩
theorem CL.repI (h : 0 ≤ i ∧ i < 1000 ∧ a.length ≤ 1000) (k : K (.own (.lst (List.replicate i.toNat a).flatten))) : CL (mulU (.lst a) (.int i)) K := CL.mk (by rw [mulU_l, if_pos h]) k
theorem isCls_ob {c : Str} {fs : List (Option D)} : isCls c (.obj c fs) = true := by rw [e_isCls_1]; simp
/-! as it is -/
theorem WE.id {f : Ev} {K : Opd → As → Prop} (h : WE A f K) : WE A f K := h
theorem WS.id {f : Sv} {Q : OA → Prop} (h : WS A f Q) : WS A f Q := h
theorem CL.id {α : Type} {o : Option α} {K : α → Prop} (h : CL o K) : CL o K := h
theorem Wk.id (h : Wk A B) : Wk A B := h
theorem WR.enumT1 {fs : Ev} {K : List D → As → Prop} (h : WE A fs fun w A1 => RL A1 w fun d A2 => ∃ l, d = .tup l ∧ K (enumF 0 l) A2) : WR A (cEnumU (sCons fs sNil)) K := WR.enumT (WEs.cons fun ρ s => by
  obtain ⟨w, ρ1, A1, e1, s1, h⟩ := h ρ s
  refine ⟨w, ρ1, A1, e1, s1, fun ρ2 s2 => ?_⟩
  obtain ⟨d, ρ3, A3, e3, s3, l, rfl, k⟩ := h ρ2 s2
  exact ⟨_, ρ3, A3, e3, s3, WEs.nil ⟨l, rfl, k⟩⟩)
/-! several slots at once -/
theorem STn.nil {K : As → Prop} (k : K A) : STn [] [] A K := fun ρ s => ⟨ρ, A, rfl, s, k⟩
theorem STn.cons {n : Nat} {is : List Nat} {w : Opd} {ws : List Opd} {K : As → Prop} (h : ST n A w fun B => STn is ws B K) : STn (n :: is) (w :: ws) A K := fun ρ s => by
  obtain ⟨ρ1, A1, e1, s1, h⟩ := h ρ s
  obtain ⟨ρ2, A2, e2, s2, k⟩ := h ρ1 s1
  exact ⟨ρ2, A2, by rw [e_stN_c, e1]; simp only [Option.bind_some]; exact e2, s2, k⟩
end
end Bl
namespace Bl
open PySem PySem.Spec PyProof.Rows L2 Evl
section
variable {A B : As} {Q : OA → Prop}
theorem WR.own {c : Str} {i : Nat} {f : Ev} {K : List D → As → Prop} (h : WE A f fun w B => RL B w fun d C => CL (keysIn c i d) fun ds => K ds C) : WR A (cOwn c i f) K := fun ρ s => by
  obtain ⟨w, ρ1, A1, e1, s1, h⟩ := h ρ s
  obtain ⟨d, ρ2, A2, e2, s2, ds, e3, k⟩ := h ρ1 s1
  exact ⟨ds, ρ2, A2, by rw [e_cOwn, e1]; simp only [Option.bind_some]; rw [e2]; simp [e3], s2, k⟩
/-- what enumerate walks -/
def EN (d : D) (K : List D → Prop) : Prop := ∃ l, (d = .lst l ∨ d = .tup l) ∧ K (enumF 0 l)
theorem EN.l {l : List D} {K : List D → Prop} (k : K (enumF 0 l)) : EN (.lst l) K := ⟨l, .inl rfl, k⟩
theorem EN.t {l : List D} {K : List D → Prop} (k : K (enumF 0 l)) : EN (.tup l) K := ⟨l, .inr rfl, k⟩
theorem WR.enumU {f : Ev} {K : List D → As → Prop} (h : WE A f fun w A1 => RL A1 w fun d A2 => EN d fun ds => K ds A2) : WR A (cEnumU (sCons f sNil)) K := fun ρ s => by
  obtain ⟨w, ρ1, A1, e1, s1, h⟩ := h ρ s
  obtain ⟨d, ρ2, A2, e2, s2, l, hd, k⟩ := h ρ1 s1
  refine ⟨_, ρ2, A2, ?_, s2, k⟩
  rw [e_cEnumU, e_sCons, e1]
  simp only [Option.bind_some]
  rw [e2]
  rcases hd with rfl | rfl <;> rfl
theorem WR.enumS {f : Ev} {K : List D → As → Prop} (h : WE A f fun w A1 => RL A1 w fun d A2 => ∃ l, d = .lst l ∧ K (enumF 0 l) A2) : WR A (cEnum (sCons f sNil)) K := fun ρ s => by
  obtain ⟨w, ρ1, A1, e1, s1, h⟩ := h ρ s
  obtain ⟨d, ρ2, A2, e2, s2, l, rfl, k⟩ := h ρ1 s1
  refine ⟨_, ρ2, A2, ?_, s2, k⟩
  rw [e_cEnum, e_sCons, e1]
  simp only [Option.bind_some]
  rw [e2]; rfl
theorem br_t {X Y : Prop} (h : X) : (true = true → X) ∧ (true = false → Y) := ⟨fun _ => h, fun z => (by cases z)⟩
theorem br_f {X Y : Prop} (h : Y) : (false = true → X) ∧ (false = false → Y) := ⟨fun z => (by cases z), fun _ => h⟩
theorem br_nt {X Y : Prop} (h : Y) : ((!true) = true → X) ∧ ((!true) = false → Y) := br_f h
theorem br_nf {X Y : Prop} (h : X) : ((!false) = true → X) ∧ ((!false) = false → Y) := br_t h
theorem at_head (x : D) (l : List D) : atI (x :: l) 0 = some x := by simp [atI, ixN]
theorem enum_zip {α : Type} (f : α → D) : ∀ (l : List α) (k : Nat), enumF k (l.map f) = (l.zipIdx k).map fun e => D.tup [.int (e.2 : Nat), f e.1]
  | [], _ => rfl
  | x :: l, k => by rw [List.map_cons, enumF, List.zipIdx_cons, List.map_cons, enum_zip f l (k + 1)]
theorem CL.neS {x y : Str} {K : Opd → Prop} (hx : gs x) (hy : gs y) (k : K (.val (.bl (!decide (x = y))))) : CL (neO (.str x) (.str y)) K := CL.mk (neO_str hx hy) k
theorem neO_mt {α : Type} {f : α → D} {g : α → PyData} {n : Nat} (l : List α) (h : ∀ a ∈ l, Py n (f a) (g a)) (hn : n < 64) : neO (.lst (l.map f)) (.lst []) = some (.val (.bl (!l.isEmpty))) := by
  have e := eqO_nil l h hn
  unfold eqO at e
  unfold neO
  obtain ⟨b, h1, h2⟩ := Option.map_eq_some_iff.mp e
  rw [h1]
  cases h2
  rfl
theorem CL.neg {i : Int} {K : Opd → Prop} (k : K (.val (.int (-i)))) : CL (negD (.int i)) K := CL.mk rfl k
/-! a piece with own things lent -/
def giveA : List Nat → As → As
  | [], A => A
  | j :: js, A => giveA js (match nthA A j with
    | .o d => setA A j (.v d)
    | .a d => setA A j (.v d)
    | _ => A)
def lendA (js ad : List Nat) : Nat → As → As → As
  | _, [], _ => []
  | n, a :: A, B => (if n ∈ ad then .n else if n ∈ js then a else if n = 0 then nthA B 0 else .u) :: lendA js ad (n + 1) A B
theorem Sat.give : ∀ {js : List Nat} {A : As} {ρ : En}, Sat A ρ → Sat (giveA js A) (giveL js ρ)
  | [], _, _, h => h
  | j :: js, A, ρ, h => by
    unfold giveA giveL
    refine Sat.give (js := js) ?_
    cases e : nthA A j with
    | o d =>
      have q := (h.get e (by simp)).2
      simp only [Okq] at q
      rw [q]
      exact h.sv
    | a d =>
      rcases (h.get e (by simp)).2 with q | q
      · rw [q]; exact h.put (r := .v d) fun _ => q
      · rw [q]; exact h.sv
    | v d =>
      have q := (h.get e (by simp)).2
      simp only [Okq] at q
      rw [q]; exact h
    | u =>
      dsimp only
      split
      · rename_i d q
        refine ⟨by rw [List.length_set]; exact h.len, fun i hi => ?_⟩
        by_cases z : j = i
        · subst z; rw [e]; trivial
        · rw [List.getElem?_set_ne z]; exact h.at_ i hi
      · exact h
    | n =>
      rcases (h.get e (by simp)).2 with q | ⟨d, q⟩ <;> rw [q] <;> exact h
theorem lendA_len (js ad : List Nat) (B : As) : ∀ (A : As) (n : Nat), (lendA js ad n A B).length = A.length
  | [], _ => rfl
  | a :: A, n => by simp [lendA, lendA_len js ad B A (n + 1)]
theorem lendA_nth (js ad : List Nat) (B : As) : ∀ (A : As) (n j : Nat), j < A.length → nthA (lendA js ad n A B) j = if n + j ∈ ad then .n else if n + j ∈ js then nthA A j else if n + j = 0 then nthA B 0 else .u
  | [], _, _, h => by simp at h
  | a :: A, n, 0, _ => rfl
  | a :: A, n, j + 1, h => by
    have := lendA_nth js ad B A (n + 1) j (by simpa using h)
    rw [show n + 1 + j = n + (j + 1) by omega] at this
    exact this
theorem lendL_at {js ad : List Nat} : ∀ (ρ0 ρ : En) (n j : Nat) (x : Option Ent), ρ0[j]? = some x → (lendL js ad n ρ0 ρ)[j]? = some (lend1 js ad (n + j) x ((ρ[j]?).getD none))
  | [], _, _, _, _, h => by simp at h
  | y :: ρ0, ρ, n, 0, x, h => by
    cases h
    cases ρ <;> rfl
  | y :: ρ0, ρ, n, j + 1, x, h => by
    have := lendL_at (js := js) (ad := ad) ρ0 ρ.tail (n + 1) j x (by simpa using h)
    rw [show n + 1 + j = n + (j + 1) by omega] at this
    cases ρ <;> simpa [lendL] using this
theorem Sat.lend {js ad : List Nat} {ρ ρ1 : En} {b b' : D} (h : Sat A ρ) (h1 : Sat B ρ1) (h0 : nthA A 0 = .o b) (hb : nthA B 0 = .o b') (hf : flatL b' = true) (hj : 0 ∉ js) : Sat (lendA js ad 0 A B) (lendL js ad 0 ρ ρ1) := by
  refine ⟨by rw [lendL_len, lendA_len, h.len], fun i hi => ?_⟩
  rw [lendA_len] at hi
  have hr : i < ρ.length := by rw [h.len]; exact hi
  rw [lendA_nth js ad B A 0 i hi, Nat.zero_add, lendL_at ρ ρ1 0 i ρ[i] (List.getElem?_eq_getElem hr), Nat.zero_add]
  have ok := h.at_ i hi
  rw [List.getElem?_eq_getElem hr] at ok
  unfold lend1
  by_cases h2 : i ∈ ad
  · rw [if_pos h2, if_pos h2]; exact .inl rfl
  · rw [if_neg h2, if_neg h2]
    by_cases h3 : i ∈ js
    · rw [if_pos h3, if_pos h3]; exact ok
    · rw [if_neg h3, if_neg h3]
      by_cases h4 : i = 0
      · subst h4
        rw [if_pos rfl, hb]
        rw [h0] at ok
        have q := (h1.get hb (by simp)).2
        simp only [Okq] at q ok
        have ok := Option.some.inj ok
        rw [ok, q]
        simp [Okq, bor2, Ent.d, hf]
      · rw [if_neg h4]; trivial
def ldq (js ad : List Nat) (A : As) (g : Sv) (Q : OA → Prop) : OA → Prop
  | .nx B => B.length = A.length ∧ ∃ b', nthA B 0 = .o b' ∧ flatL b' = true ∧ WS (lendA js ad 0 A B) g Q
  | o => Q o
theorem LD.nx {js ad : List Nat} {g : Sv} {b' : D} (hl : B.length = A.length) (hb : nthA B 0 = .o b') (hf : flatL b' = true) (h : WS (lendA js ad 0 A B) g Q) : ldq js ad A g Q (.nx B) := ⟨hl, b', hb, hf, h⟩
theorem LD.rt {js ad : List Nat} {g : Sv} {w : Opd} (h : Q (.rt w B)) : ldq js ad A g Q (.rt w B) := h
theorem WS.lend {js ad : List Nat} {f g : Sv} {b : D} (h0 : nthA A 0 = .o b) (hj : 0 ∉ js) (h : WS (giveA js A) f (ldq js ad A g Q)) : WS A (sLend js ad f g) Q := fun ρ s => by
  obtain ⟨o, oa, e, so, h⟩ := h _ (s.give (js := js))
  cases oa with
  | nx B =>
    cases o with
    | nx ρ1 =>
      obtain ⟨hl, b', hb, hf, h⟩ := h
      have so : Sat B ρ1 := so
      obtain ⟨o', oa', e', so', k⟩ := h _ (Sat.lend s so h0 hb hf hj)
      have hle : ρ1.length = ρ.length := by rw [so.len, s.len, hl]
      exact ⟨o', oa', by rw [e_sLend, e]; simp only [Option.bind_some]; rw [if_pos hle, e'], so', k⟩
    | _ => exact so.elim
  | rt w B =>
    cases o with
    | rt w' ρ1 => exact ⟨.rt w' ρ1, .rt w B, by rw [e_sLend, e]; rfl, so, h⟩
    | _ => exact so.elim
  | bk B =>
    cases o with
    | bk ρ1 => exact ⟨.bk ρ1, .bk B, by rw [e_sLend, e]; rfl, so, h⟩
    | _ => exact so.elim
  | ct B =>
    cases o with
    | ct ρ1 => exact ⟨.ct ρ1, .ct B, by rw [e_sLend, e]; rfl, so, h⟩
    | _ => exact so.elim
end
end Bl
/-! Rows that are compared. -/
namespace Bl
open PySem PySem.Spec PyProof.Rows L2 Evl
theorem eqv_row {α : Type} [DecidableEq α] {g : α → PyData} (h : ∀ a b, (g a).eqv (g b) = decide (a = b)) : ∀ a b : List α, PyData.eqvAll (a.map g) (b.map g) = decide (a = b)
  | [], [] => rfl
  | [], _ :: _ => rfl
  | _ :: _, [] => rfl
  | x :: a, y :: b => by
    have ih := eqv_row h a b
    show ((g x).eqv (g y) && PyData.eqvAll (a.map g) (b.map g)) = _
    rw [h, ih]
    by_cases e : x = y <;> by_cases e2 : a = b <;> simp [e, e2]
theorem eqv_str (a b : Str) : (PyData.str a).eqv (.str b) = decide (a = b) := by
  show (a == b) = decide (a = b)
  by_cases z : a = b <;> simp [z]
theorem eqO_T {α : Type} [DecidableEq α] {f : α → D} {g : α → PyData} {n : Nat} {a b : List α} (h : ∀ a b, (g a).eqv (g b) = decide (a = b)) (ha : ∀ x ∈ a, Py n (f x) (g x)) (hb : ∀ x ∈ b, Py n (f x) (g x)) (hn : n < 64) : eqO (.tup (a.map f)) (.tup (b.map f)) = some (.val (.bl (decide (a = b)))) := by
  rw [eqO_py (py_tup a ha) (py_tup b hb) (by omega) (by omega)]
  exact congrArg (fun z => some (Opd.val (.bl z))) (eqv_row h a b)
theorem eqO_L {α : Type} [DecidableEq α] {f : α → D} {g : α → PyData} {n : Nat} {a b : List α} (h : ∀ a b, (g a).eqv (g b) = decide (a = b)) (ha : ∀ x ∈ a, Py n (f x) (g x)) (hb : ∀ x ∈ b, Py n (f x) (g x)) (hn : n < 64) : eqO (.lst (a.map f)) (.lst (b.map f)) = some (.val (.bl (decide (a = b)))) := by
  rw [eqO_py (py_lst a ha) (py_lst b hb) (by omega) (by omega)]
  exact congrArg (fun z => some (Opd.val (.bl z))) (eqv_row h a b)
theorem ne_of_eq {a b : D} {z : Bool} (h : eqO a b = some (.val (.bl z))) : neO a b = some (.val (.bl !z)) := by
  unfold eqO at h
  unfold neO
  obtain ⟨y, h1, h2⟩ := Option.map_eq_some_iff.mp h
  rw [h1]
  cases h2; rfl
theorem eqT_strs {a b : List Str} (ha : ∀ x ∈ a, gs x) (hb : ∀ x ∈ b, gs x) : eqO (.tup (a.map D.str)) (.tup (b.map D.str)) = some (.val (.bl (decide (a = b)))) := eqO_T (g := PyData.str) (n := 0) eqv_str (fun x hx => py_str (ha x hx)) (fun x hx => py_str (hb x hx)) (by decide)
theorem eqL_strs {a b : List Str} (ha : ∀ x ∈ a, gs x) (hb : ∀ x ∈ b, gs x) : eqO (.lst (a.map D.str)) (.lst (b.map D.str)) = some (.val (.bl (decide (a = b)))) := eqO_L (g := PyData.str) (n := 0) eqv_str (fun x hx => py_str (ha x hx)) (fun x hx => py_str (hb x hx)) (by decide)
theorem eqL_nil {a : List Str} (ha : ∀ x ∈ a, gs x) : eqO (.lst (a.map D.str)) (.lst []) = some (.val (.bl a.isEmpty)) := eqO_nil a (g := PyData.str) (n := 0) (fun x hx => py_str (ha x hx)) (by decide)
theorem neL_nil {a : List Str} (ha : ∀ x ∈ a, gs x) : neO (.lst (a.map D.str)) (.lst []) = some (.val (.bl !a.isEmpty)) := ne_of_eq (eqL_nil ha)
theorem CL.neB {p q : Bool} {K : Opd → Prop} (k : K (.val (.bl (!decide (p = q))))) : CL (neO (.bl p) (.bl q)) K := CL.mk (neO_bl p q) k
theorem CL.neBB {q : Bool} {K : Opd → Prop} (k : K (.val (.bl false))) : CL (neO (.bl q) (.bl q)) K := CL.mk (by rw [neO_bl]; simp) k
theorem CL.eqBB {q : Bool} {K : Opd → Prop} (k : K (.val (.bl true))) : CL (eqO (.bl q) (.bl q)) K := CL.mk (by rw [eqO_bl]; simp) k
theorem br_off {X Y : Prop} (h : Y) : ((false || false) = true → X) ∧ ((false || false) = false → Y) := br_f h
theorem br_att {X Y : Prop} (h : X) : ((true && true) = true → X) ∧ ((true && true) = false → Y) := br_t h
theorem br_ntf {X Y : Prop} (h : Y) : ((!true || false) = true → X) ∧ ((!true || false) = false → Y) := br_f h
theorem br_ntnt {X Y : Prop} (h : Y) : ((!true || !true) = true → X) ∧ ((!true || !true) = false → Y) := br_f h
/-! cuts -/
theorem cut_to {ds : List D} {k : Nat} : cutD ds none (some (k : Int)) = ds.take k := by
  unfold cutD
  have h1 : HT.sIx ds.length 0 none = 0 := rfl
  have h2 : HT.sIx ds.length ds.length (some (k : Int)) = min k ds.length := by
    simp only [HT.sIx]
    split <;> omega
  rw [h1, h2, List.drop_zero, Nat.sub_zero]
  by_cases h : k ≤ ds.length
  · rw [Nat.min_eq_left h]
  · rw [Nat.min_eq_right (by omega), List.take_length, List.take_of_length_le (by omega)]
theorem cut_init {ds : List D} {d : D} : cutD (ds ++ [d]) none (some (-1)) = ds := by
  unfold cutD
  have h1 : HT.sIx (ds ++ [d]).length 0 none = 0 := rfl
  have h2 : HT.sIx (ds ++ [d]).length (ds ++ [d]).length (some (-1)) = ds.length := by
    simp only [HT.sIx, List.length_append, List.length_cons, List.length_nil]
    split <;> omega
  rw [h1, h2]
  simp
theorem cut_end {ds : List D} {d : D} : cutD (ds ++ [d]) (some (-1)) none = [d] := by
  have := cut_last (ds := ds ++ [d]) (k := 0)
  simpa using this
theorem sort_tup {l : List Str} (h : l.length ≤ 100000) : sortU (.tup (l.map D.str)) = some (.own (.lst ((sortS l).map D.str))) := by
  rw [sortU_t, strsD_all]
  simp only [Option.bind_some]
  rw [if_pos h]
theorem sort_lst {l : List Str} (h : l.length ≤ 1000000) : sortU (.lst (l.map D.str)) = some (.own (.lst ((sortS l).map D.str))) := by
  rw [sortU_l, if_pos (okSort_strs l h), sort_strs]
theorem sz_st {p : Pn} (o : OkP p) {s : Stp} (h : s ∈ p.st) : sz p s.1 = s.2 := by
  unfold sz
  have nd := o.nd
  unfold Pn.names at nd
  have : ∀ l : List Stp, (l.map (·.1)).Nodup → s ∈ l → l.find? (fun e => decide (e.1 = s.1)) = some s := fun l => by
    induction l with
    | nil => intro _ h; cases h
    | cons a l ih =>
      intro nd h
      rw [List.map_cons, List.nodup_cons] at nd
      rw [List.find?_cons]
      rcases List.mem_cons.mp h with q | q
      · subst q; simp
      · have : ¬ a.1 = s.1 := fun z => nd.1 (z ▸ List.mem_map_of_mem q)
        simp only [decide_eq_false this]
        exact ih nd.2 q
  rw [this p.st nd h]; rfl
theorem stepsDict {p : Pn} (o : OkP p) : dictT (.tup (p.st.map stepD)) = some (.own (.dic (numD p))) := by
  have ap : allP (p.st.map stepD) = true := by
    unfold allP
    rw [Bool.and_eq_true]
    constructor
    · have := o.s0
      cases e : p.st with
      | nil => exact absurd e this
      | cons a l => rfl
    · rw [List.all_eq_true]
      intro x hx
      obtain ⟨s, _, rfl⟩ := List.mem_map.mp hx
      rfl
  have mg : mergeD [] (numD p) = numD p := mergeD_new (numD p) [] (by
    rw [List.nil_append]
    unfold numD
    rw [List.map_map]
    exact keys_nodup (f := fun s : Stp => s.1) o.nd)
  rw [e_dictT_1, if_pos ap, pairs_steps]
  show some (Opd.own (.dic (mergeD [] (numD p)))) = _
  rw [mg]
end Bl
/-! The law's facts, and its own raising (put in by size). -/
namespace Bl
open PySem PySem.Spec PyProof.Rows L2 Evl
theorem leS_tr3 {a b c : Str} (h : leS a b = true) (g : leS b c = true) : leS a c = true := decide_eq_true (List.le_trans (of_decide_eq_true h) (of_decide_eq_true g))
theorem leS_all (a b : Str) : (leS a b || leS b a) = true := by
  unfold leS
  rw [Bool.or_eq_true, decide_eq_true_eq, decide_eq_true_eq]
  exact List.le_total _ _
theorem sortS_rise {l : List Str} (h : l.Nodup) : (sortS l).Pairwise fun a b => ltT a b = true := by
  have so := List.pairwise_mergeSort (le := leS) (fun a b c => leS_tr3) leS_all l
  have nd := (List.mergeSort_perm l leS).nodup_iff.mpr h
  rw [List.nodup_iff_pairwise_ne] at nd
  refine (so.and nd).imp fun {a b} q => ?_
  rcases ltT_ord.tot a b q.2 with w | w
  · exact w
  · have h1 := of_decide_eq_true q.1
    exact absurd (of_decide_eq_true w) (List.not_lt.mpr h1)
/-! ### facts -/
def rowS (f : Com → List Str) (t : List (Str × List Str)) (c : Com) : List Str := sortS (uniq (f c ++ c.2.1.flatMap (look t)))
theorem mem_rowS {f : Com → List Str} (t : List (Str × List Str)) (c : Com) (y : Str) : y ∈ rowS f t c ↔ y ∈ f c ∨ ∃ p ∈ c.2.1, y ∈ look t p := by
  unfold rowS
  rw [mem_sortS, mem_uniq, List.mem_append, List.mem_flatMap]
def tbL (t : List (Str × List Str)) : List (Key × D) := t.map fun e => ((Sum.inr e.1 : Key), D.lst (e.2.map D.str))
theorem getK_tbL {t : List (Str × List Str)} {x : Str} (h : x ∈ t.map (·.1)) : getK (tbL t) (.inr x) = some (.lst ((look t x).map D.str)) := by
  unfold tbL
  rw [getK_find (fun e : Str × List Str => (Sum.inr e.1 : Key)) (fun e => D.lst (e.2.map D.str))]
  unfold look
  have e : (fun a : Str × List Str => decide ((Sum.inr a.1 : Key) = Sum.inr x)) = fun a => decide (a.1 = x) := by
    funext a; simp
  rw [e]
  cases q : t.find? fun a => decide (a.1 = x) with
  | some z => rfl
  | none =>
    obtain ⟨z, hz, rfl⟩ := List.mem_map.mp h
    have := List.find?_eq_none.mp q z hz
    simp at this
theorem put_tbL {t : List (Str × List Str)} {x : Str} {l : List Str} (h : x ∉ t.map (·.1)) : putD (tbL t) (.inr x) (.lst (l.map D.str)) = tbL (t ++ [(x, l)]) := by
  rw [putD_new]
  · simp [tbL]
  · intro q
    obtain ⟨y, hy, e⟩ := List.mem_map.mp q
    obtain ⟨z, hz, rfl⟩ := List.mem_map.mp hy
    cases e
    exact h (List.mem_map.mpr ⟨z, hz, rfl⟩)
abbrev kF (p : Pn) : List (Str × List Str) := tabG (rowS (·.2.2)) p.cm
abbrev aF (p : Pn) : List (Str × List Str) := tabG (rowS (·.2.1)) p.cm
theorem rowS_nodup (f : Com → List Str) (t : List (Str × List Str)) (c : Com) : (rowS f t c).Nodup := nodup_sortS (nodup_uniq _)
theorem kF_spec {p : Pn} (o : OkP p) {c : Str} (hc : c ∈ p.labels) : (∀ s, s ∈ look (kF p) c ↔ s ∈ knownOf p.cm c) ∧ (look (kF p) c).Nodup := ⟨o.okc.sameG mem_rowS hc, o.okc.rowG (P := List.Nodup) (rowS_nodup _) hc⟩
theorem aF_spec {p : Pn} (o : OkP p) {c : Str} (hc : c ∈ p.labels) : (∀ s, s ∈ look (aF p) c ↔ s ∈ ahead p.cm c) ∧ (look (aF p) c).Nodup := ⟨o.okc.sameG mem_rowS hc, o.okc.rowG (P := List.Nodup) (rowS_nodup _) hc⟩
/-- rows of all tables are short -/
theorem OkP.lenG {p : Pn} (o : OkP p) {pre post : List Com} (e : p.cm = pre ++ post) (x : Str) : (look (tabG (rowS (·.2.2)) pre) x).length ≤ 9 ∧ (look (tabG (rowS (·.2.1)) pre) x).length ≤ 9 := by
  have ok : Okc pre := (e ▸ o.okc : Okc (pre ++ post)).pre
  have sub : ∀ c ∈ pre, c ∈ p.cm := fun c hc => by rw [e]; exact List.mem_append_left _ hc
  by_cases hx : x ∈ pre.map (·.1)
  · constructor
    · have h2 := nodup_len _ p.names (ok.rowG (P := List.Nodup) (rowS_nodup (·.2.2)) hx) fun s hs => by
        obtain ⟨d, hd, q, _⟩ := (ok.known_iff hx s).mp ((ok.sameG (f := (·.2.2)) mem_rowS hx s).mp hs)
        exact o.fr.mem_iff.mp (List.mem_flatMap.mpr ⟨d, sub d hd, q⟩)
      have h4 := o.sl
      rw [show p.names.length = p.st.length from List.length_map ..] at h2
      exact Nat.le_trans h2 h4
    · have h2 := nodup_len _ (pre.map (·.1)) (ok.rowG (P := List.Nodup) (rowS_nodup (·.2.1)) hx) fun s hs => ok.ahead_mem hx s ((ok.sameG (f := (·.2.1)) mem_rowS hx s).mp hs)
      have h3 := o.cl
      have h4 : pre.length ≤ p.cm.length := by rw [e]; simp
      rw [List.length_map] at h2
      exact Nat.le_trans h2 (by omega)
  · rw [look_none (by rw [tabG_keys]; exact hx), look_none (by rw [tabG_keys]; exact hx)]
    simp
end Bl
/-! The law's facts, and its own raising (put in by size). -/
namespace Bl
open PySem PySem.Spec PyProof.Rows L2 Evl
theorem facts_in {kt at_ : List (Str × List Str)} {e0 e3 e4 e5 : Option Ent} : ∀ (ps a b : List Str) (e6 e7 : Ent) (e8 : Option Ent), e6.d = .lst (a.map D.str) → e7.d = .lst (b.map D.str) → (∀ p ∈ ps, p ∈ kt.map (·.1) ∧ p ∈ at_.map (·.1)) → (∀ x, (look kt x).length ≤ 9 ∧ (look at_ x).length ≤ 9) → a.length + 9 * ps.length ≤ 1000 → b.length + 9 * ps.length ≤ 1000 →
    ∃ e6' e7' e8', forL (hName 8) (sPar 6 7 (sOp addU (sVar 6) (sOp ixDic (sVar 1) (sVar 8))) (sOp addU (sVar 7) (sOp ixDic (sVar 2) (sVar 8)))) (ps.map D.str) [e0, some (.o (.dic (tbL kt))), some (.o (.dic (tbL at_))), e3, e4, e5, some e6, some e7, e8] =
      some (.nx [e0, some (.o (.dic (tbL kt))), some (.o (.dic (tbL at_))), e3, e4, e5, some e6', some e7', e8']) ∧ e6'.d = .lst ((a ++ ps.flatMap (look kt)).map D.str) ∧ e7'.d = .lst ((b ++ ps.flatMap (look at_)).map D.str)
  | [], a, b, e6, e7, e8, h6, h7, _, _, _, _ => ⟨e6, e7, e8, rfl, by simpa using h6, by simpa using h7⟩
  | p :: ps, a, b, e6, e7, e8, h6, h7, hk, hl, la, lb => by
    obtain ⟨k1, k2⟩ := hk p (List.mem_cons_self ..)
    have g1 := getK_tbL k1
    have g2 := getK_tbL k2
    have l1 := (hl p).1
    have l2 := (hl p).2
    have la' : a.length + 9 * ps.length + 9 ≤ 1000 := by simp at la; omega
    have lb' : b.length + 9 * ps.length + 9 ≤ 1000 := by simp at lb; omega
    obtain ⟨e6', e7', e8', ih, q6, q7⟩ := facts_in (kt := kt) (at_ := at_) (e0 := e0) (e3 := e3) (e4 := e4) (e5 := e5) ps (a ++ look kt p) (b ++ look at_ p) (.o (.lst ((a ++ look kt p).map D.str))) (.o (.lst ((b ++ look at_ p).map D.str))) (some (.v (.str p))) rfl rfl (fun q hq => hk q (List.mem_cons_of_mem _ hq)) hl (by simp; omega) (by simp; omega)
    refine ⟨e6', e7', e8', ?_, by rw [q6]; simp, by rw [q7]; simp⟩
    rw [List.map_cons, forL, ← ih]
    have z1 : a.length + (look kt p).length ≤ 1000000 := by omega
    have z2 : b.length + (look at_ p).length ≤ 1000000 := by omega
    generalize look kt p = u1 at *
    generalize look at_ p = u2 at *
    cases e6 <;> cases e7 <;> (rename_i x y; have h6 : x = .lst (a.map D.str) := h6; have h7 : y = .lst (b.map D.str) := h7; subst h6 h7; simp [Ent.d, g1, g2, z1, z2])
def factsF : Sv := sSeq (sPar 6 7 (sUn listD (sVar 5)) (sUn listD (sVar 4)))
    (sSeq (sFor (cRel (sVar 4)) (hName 8) (sPar 6 7 (sOp addU (sVar 6) (sOp ixDic (sVar 1) (sVar 8))) (sOp addU (sVar 7) (sOp ixDic (sVar 2) (sVar 8)))))
    (sAsg (sTup (sCons (sUn sortSetO (sVar 6)) (sCons (sUn sortSetO (sVar 7)) sNil))) (hTup 2 (hCons (hSub 1 (sVar 3)) (hCons (hSub 2 (sVar 3)) hNil)))))
theorem facts_loop {p : Pn} (o : OkP p) {e0 : Option Ent} : ∀ (post pre : List Com) (e3 e4 e5 e6 e7 e8 : Option Ent), p.cm = pre ++ post →
    ∃ e3' e4' e5' e6' e7' e8', forL (hTup 3 (hCons (hName 3) (hCons (hName 4) (hCons (hName 5) hNil)))) factsF (post.map comD) [e0, some (.o (.dic (tbL (tabG (rowS (·.2.2)) pre)))), some (.o (.dic (tbL (tabG (rowS (·.2.1)) pre)))), e3, e4, e5, e6, e7, e8] =
      some (.nx [e0, some (.o (.dic (tbL (kF p)))), some (.o (.dic (tbL (aF p)))), e3', e4', e5', e6', e7', e8'])
  | [], pre, e3, e4, e5, e6, e7, e8, e => by
    rw [List.append_nil] at e
    refine ⟨e3, e4, e5, e6, e7, e8, ?_⟩
    unfold kF aF
    rw [e]; rfl
  | c :: post, pre, e3, e4, e5, e6, e7, e8, e => by
    have hc : c ∈ p.cm := by rw [e]; simp
    have ok := o.okc
    have nd := ok.nd
    rw [e, List.map_append, List.map_cons, List.nodup_append] at nd
    have hn : c.1 ∉ pre.map (·.1) := fun h => nd.2.2 c.1 h c.1 (List.mem_cons_self ..) rfl
    have hp := ok.up pre c post e
    have l1 := nodup_len c.2.1 (p.cm.map (·.1)) (o.pnd c hc) fun x hx => ok.par_mem hc hx
    have l2 := nodup_len c.2.2 p.names (o.fnd c hc) fun x hx => o.fr.mem_iff.mp (List.mem_flatMap.mpr ⟨c, hc, hx⟩)
    have h1 := o.sl
    have h2 := o.cl
    have h3 : pre.length ≤ p.cm.length := by rw [e]; simp
    rw [List.length_map] at l1
    rw [show p.names.length = p.st.length from List.length_map ..] at l2
    obtain ⟨e6', e7', e8', fi, q6, q7⟩ := facts_in (kt := tabG (rowS (·.2.2)) pre) (at_ := tabG (rowS (·.2.1)) pre) (e0 := e0) (e3 := some (.v (.str c.1))) (e4 := some (.v (.tup (c.2.1.map D.str)))) (e5 := some (.v (.tup (c.2.2.map D.str)))) c.2.1 c.2.2 c.2.1 (.o (.lst (c.2.2.map D.str))) (.o (.lst (c.2.1.map D.str))) e8 rfl rfl
      (fun q hq => ⟨by rw [tabG_keys]; exact hp q hq, by rw [tabG_keys]; exact hp q hq⟩) (o.lenG e) (by omega) (by omega)
    have fl : ∀ (t : List (Str × List Str)) (ps : List Str), (∀ x, (look t x).length ≤ 9) → (ps.flatMap (look t)).length ≤ 9 * ps.length := fun t ps ht => by
      induction ps with
      | nil => simp
      | cons x l ih =>
        have := ht x
        rw [List.flatMap_cons, List.length_append, List.length_cons]
        omega
    have f1 := fl _ c.2.1 fun x => (o.lenG e x).1
    have f2 := fl _ c.2.1 fun x => (o.lenG e x).2
    obtain ⟨e3', e4', e5', e6'', e7'', e8'', ih⟩ := facts_loop o (e0 := e0) post (pre ++ [c]) (some (.v (.str c.1))) (some (.v (.tup (c.2.1.map D.str)))) (some (.v (.tup (c.2.2.map D.str)))) (some e6') (some e7') e8' (by rw [e]; simp)
    refine ⟨e3', e4', e5', e6'', e7'', e8'', ?_⟩
    rw [tabG_snoc, tabG_snoc] at ih
    rw [← ih, List.map_cons, forL]
    have p1 := put_tbL (t := tabG (rowS (·.2.2)) pre) (l := rowS (·.2.2) (tabG (rowS (·.2.2)) pre) c) (by rw [tabG_keys]; exact hn)
    have p2 := put_tbL (t := tabG (rowS (·.2.1)) pre) (l := rowS (·.2.1) (tabG (rowS (·.2.1)) pre) c) (by rw [tabG_keys]; exact hn)
    have t1 : (tabG (rowS (·.2.2)) pre).length = pre.length := by have := congrArg List.length (tabG_keys (rowS (·.2.2)) pre); simpa using this
    have t2 : (tabG (rowS (·.2.1)) pre).length = pre.length := by have := congrArg List.length (tabG_keys (rowS (·.2.1)) pre); simpa using this
    have z1 : (c.2.2 ++ c.2.1.flatMap (look (tabG (rowS (·.2.2)) pre))).length < 4000 := by rw [List.length_append]; omega
    have z2 : (c.2.1 ++ c.2.1.flatMap (look (tabG (rowS (·.2.1)) pre))).length < 4000 := by rw [List.length_append]; omega
    have zt1 : (tbL (tabG (rowS (·.2.2)) pre)).length < 1000000 := by unfold tbL; rw [List.length_map, t1]; omega
    have zt2 : (tbL (tabG (rowS (·.2.1)) pre)).length < 1000000 := by unfold tbL; rw [List.length_map, t2]; omega
    have turn : factsF [e0, some (.o (.dic (tbL (tabG (rowS (·.2.2)) pre)))), some (.o (.dic (tbL (tabG (rowS (·.2.1)) pre)))), some (.v (.str c.1)), some (.v (.tup (c.2.1.map D.str))), some (.v (.tup (c.2.2.map D.str))), e6, e7, e8] =
        some (.nx [e0, some (.o (.dic (tbL (tabG (rowS (·.2.2)) pre ++ [(c.1, rowS (·.2.2) (tabG (rowS (·.2.2)) pre) c)])))), some (.o (.dic (tbL (tabG (rowS (·.2.1)) pre ++ [(c.1, rowS (·.2.1) (tabG (rowS (·.2.1)) pre) c)])))), some (.v (.str c.1)), some (.v (.tup (c.2.1.map D.str))), some (.v (.tup (c.2.2.map D.str))), some e6', some e7', e8']) := by
      refine (seq_nx (ρ' := [e0, some (.o (.dic (tbL (tabG (rowS (·.2.2)) pre)))), some (.o (.dic (tbL (tabG (rowS (·.2.1)) pre)))), some (.v (.str c.1)), some (.v (.tup (c.2.1.map D.str))), some (.v (.tup (c.2.2.map D.str))), some (.o (.lst (c.2.2.map D.str))), some (.o (.lst (c.2.1.map D.str))), e8]) ?_).trans ((seq_nx (ρ' := [e0, some (.o (.dic (tbL (tabG (rowS (·.2.2)) pre)))), some (.o (.dic (tbL (tabG (rowS (·.2.1)) pre)))), some (.v (.str c.1)), some (.v (.tup (c.2.1.map D.str))), some (.v (.tup (c.2.2.map D.str))), some e6', some e7', e8']) ?_).trans ?_)
      · simp [Ent.d]
      · rw [e_sFor]
        simpa using fi
      · have s1 := strsD_map (c.2.2 ++ c.2.1.flatMap (look (tabG (rowS (·.2.2)) pre)))
        have s2 := strsD_map (c.2.1 ++ c.2.1.flatMap (look (tabG (rowS (·.2.1)) pre)))
        rw [← p1, ← p2]
        have r1 : rowS (·.2.2) (tabG (rowS (·.2.2)) pre) c = sortS (uniq (c.2.2 ++ c.2.1.flatMap (look (tabG (rowS (·.2.2)) pre)))) := rfl
        have r2 : rowS (·.2.1) (tabG (rowS (·.2.1)) pre) c = sortS (uniq (c.2.1 ++ c.2.1.flatMap (look (tabG (rowS (·.2.1)) pre)))) := rfl
        rw [r1, r2]
        clear fi p1 p2 ih f1 f2 r1 r2 t1 t2
        generalize tbL (tabG (rowS (·.2.2)) pre) = B1 at *
        generalize tbL (tabG (rowS (·.2.1)) pre) = B2 at *
        generalize c.2.2 ++ c.2.1.flatMap (look (tabG (rowS (·.2.2)) pre)) = L1 at *
        generalize c.2.1 ++ c.2.1.flatMap (look (tabG (rowS (·.2.1)) pre)) = L2 at *
        cases e6' <;> cases e7' <;> (rename_i x y; have q6 : x = .lst (L1.map D.str) := q6; have q7 : y = .lst (L2.map D.str) := q7; subst q6 q7; simp [Ent.d, s1, s2, z1, z2, zt1, zt2])
    simp only [comD, e_hTup, e_hCons, e_hName, e_hNil, List.length_cons, List.length_nil, Nat.zero_add, Nat.reduceAdd, if_true, Option.bind_some, List.set_cons_succ, List.set_cons_zero, turn]
theorem facts_ok {p : Pn} (o : OkP p) : m__law_facts [planD p] = some (.val (.tup [.dic (tbL (kF p)), .dic (tbL (aF p))])) := by
  obtain ⟨e3, e4, e5, e6, e7, e8, lp⟩ := facts_loop o (e0 := some (.v (planD p))) p.cm [] none none none none none none rfl
  have a2 : ∀ x y z : D, atI [x, y, z] 2 = some z := fun _ _ _ => rfl
  refine runP_of (ρ := [some (.v (planD p)), some (.v (.dic (tbL (kF p)))), some (.v (.dic (tbL (aF p)))), e3, e4, e5, e6, e7, e8]) ((seq_nx (ρ' := [some (.v (planD p)), some (.o (.dic [])), some (.o (.dic [])), none, none, none, none, none, none]) ?_).trans ((seq_nx (ρ' := [some (.v (planD p)), some (.o (.dic (tbL (kF p)))), some (.o (.dic (tbL (aF p)))), e3, e4, e5, e6, e7, e8]) ?_).trans ?_))
  · simp [List.replicate]
  · rw [e_sFor]
    have lp : forL _ factsF (p.cm.map comD) [some (.v (planD p)), some (.o (.dic [])), some (.o (.dic [])), none, none, none, none, none, none] = _ := lp
    unfold factsF at lp
    unfold planD at lp ⊢
    simp only [e_cRel, e_sOp, e_sVar, e_sC]
    simp [Ent.d, a2]
    exact lp
  · simp
end Bl
namespace Bl
open PySem PySem.Spec PyProof.Rows L2 Evl
abbrev lessP (p : Pn) (a b : Str) : Bool := lessF (sz p a) (sz p b)
def lawRaised (p : Pn) (l : List Str) : List Str := (sortS l).foldl (fun f x => putIn (lessP p) x f) []
theorem lawRaised_spec {p : Pn} (o : OkP p) {l : List Str} (h : l.Nodup) : (lawRaised p l).Pairwise (fun a b => low p a b = true) ∧ (lawRaised p l).Perm l := by
  have := putAll (lt := ltT) (sz := sz p) (sz_ok o) (low_ord o) (sortS l) [] (sortS_rise h) (fun y hy => by cases hy) List.Pairwise.nil
  exact ⟨this.1, this.2.trans (by simpa using sortS_perm l)⟩
theorem lawRaised_eq {p : Pn} (o : OkP p) {l m : List Str} (hl : l.Nodup) (hm : m.Nodup) (h : ∀ x, x ∈ l ↔ x ∈ m) : lawRaised p l = raisedOf p m := by
  have a := lawRaised_spec o hl
  have b := raisedOf_spec o hm
  exact rise_eq (lt := fun a b => low p a b = true) (low_ord o).asym a.1 b.2 fun x => by rw [b.1 x, ← h x]; exact a.2.mem_iff
end Bl
/-! A house's calls: what the program's class Run does. -/
namespace Bl
open PySem PySem.Spec PyProof.Rows L2 Evl
def leftR (p : Pn) (c : Str) (ran : List Str) : List Str := (raisedOf p (knownOf p.cm c)).filter fun s => !decide (s ∈ ran)
def aboveR (p : Pn) (left ran : List Str) : List Str := left.filter fun s => ran.all fun o => lessP p o s
def rules : List Str := ["all", "last", "strict"]
def callM (p : Pn) (rule : Str) (z : List Str × List Int) (k : Int) (c : Str) : List Str × List Int :=
  if rule = "strict" ∧ (aboveR p (leftR p c z.1) z.1).length < (leftR p c z.1).length then (z.1, z.2 ++ [k])
  else (z.1 ++ (if rule = "last" then aboveR p (leftR p c z.1) z.1 else leftR p c z.1), z.2)
def runM (p : Pn) (rule : Str) : List Str → Int → List Str × List Int → List Str × List Int
  | [], _, z => z
  | c :: cs, k, z => runM p rule cs (k + 1) (callM p rule z k c)
theorem isAbove_ok {p : Pn} (o : OkP p) {off : List D} {rw ru : D} {s : Str} (hs : s ∈ p.names) {ran : List Str} (hr : ∀ x ∈ ran, x ∈ p.names) (hl : ran.length ≤ 1000) :
    m_Run_is_above [runD (planO p) off rw ru, .str s, .lst (ran.map D.str)] = some (.val (.bl (ran.all fun o => lessP p o s))) := by
  have w1 := worth_ok hs
  have row : lcL [3] (hName 3) sYes (sCall m_is_less (sCons (sMeth "Plan" m_Plan_worth (sUn (fldO "Run" 0) (sVar 0)) (sCons (sVar 3) sNil)) (sCons (sMeth "Plan" m_Plan_worth (sUn (fldO "Run" 0) (sVar 0)) (sCons (sVar 1) sNil)) sNil))) (ran.map D.str) []
      [some (.v (runD (planO p) off rw ru)), some (.v (.str s)), some (.v (.lst (ran.map D.str))), none] = some ((ran.map fun o => lessP p o s).map D.bl, [some (.v (runD (planO p) off rw ru)), some (.v (.str s)), some (.v (.lst (ran.map D.str))), none]) := by
    refine lcL_mapT D.str (fun o => lessP p o s) D.bl ran (by omega) fun a ha => ?_
    have w2 := worth_ok (hr a ha)
    have ls := less_ok (sz_ok o a) (sz_ok o s)
    exact ⟨[some (.v (runD (planO p) off rw ru)), some (.v (.str s)), some (.v (.lst (ran.map D.str))), some (.v (.str a))], .val (.bl (lessP p a s)), rfl, rfl, by simp [runD, clsP, Ent.d, w1, w2, ls], rfl⟩
  have bs : bools ((ran.map fun o => lessP p o s).map D.bl) = some (ran.map fun o => lessP p o s) := by
    rw [List.map_map]; exact bools_map (fun o => lessP p o s) ran
  generalize hB : (ran.map fun o => lessP p o s).map D.bl = B at *
  simp [m_Run_is_above, b_Run_is_above, List.replicate, Ent.d, row, bs]
  try rfl
theorem filt_self {α : Type} (P : α → Bool) (l : List α) : l.filterMap (fun a => if P a = true then some a else none) = l.filter P := by
  have := filt_map P (fun a => a) l
  rw [List.map_id'] at this
  exact this
theorem flat_strs (l : List Str) : flatL (.lst (l.map D.str)) = true := by
  show (l.map D.str).all flatD = true
  rw [List.all_map, List.all_eq_true]
  exact fun _ _ => rfl
def rD (p : Pn) (rule : Str) (ran : List Str) (off : List D) : D := runD (planO p) off (.lst (ran.map D.str)) (.str rule)
def stR (k : Int) (c : Str) (e3 e4 e5 e6 : Option Ent) : En := [none, some (.v (.int k)), some (.v (.str c)), e3, e4, e5, e6, none]
theorem call1 {p : Pn} {rule : Str} {ran : List Str} {off : List D} {k : Int} {c : Str} : rLook (planO p) (.str rule) 3 (sUn listD (sUn (fldO "Run" 2) (sVar 0))) (startR 5 (.int k) (.str c)) off (.lst (ran.map D.str)) = some (stR k c (some (.o (.lst (ran.map D.str)))) none none none, off, .lst (ran.map D.str)) := by
  have f := flat_strs ran
  simp [startR, stR, runD, List.replicate, Ent.d, f]
theorem call2 {p : Pn} (o : OkP p) {rule : Str} {ran : List Str} {off : List D} {k : Int} {c : Str} (hc : c ∈ p.labels) : rLook (planO p) (.str rule) 4 (sLc (cRel (sMeth "Plan" m_Plan_known (sUn (fldO "Run" 0) (sVar 0)) (sCons (sVar 2) sNil))) [] [7] (hName 7) (sB (sOp ninU (sVar 7) (sVar 3))) (sVar 7))
    (stR k c (some (.o (.lst (ran.map D.str)))) none none none) off (.lst (ran.map D.str)) = some (stR k c (some (.o (.lst (ran.map D.str)))) (some (.o (.lst ((leftR p c ran).map D.str)))) none none, off, .lst (ran.map D.str)) := by
  have f := flat_strs ran
  have f2 := flat_strs (leftR p c ran)
  have kn := planKnown_ok o hc
  have kl := (known_gs o hc).2
  have row : lcL [7] (hName 7) (sB (sOp ninU (sVar 7) (sVar 3))) (sVar 7) ((raisedOf p (knownOf p.cm c)).map D.str) [] [some (.v (rD p rule ran off)), some (.v (.int k)), some (.v (.str c)), some (.o (.lst (ran.map D.str))), none, none, none, none] =
      some ((leftR p c ran).map D.str, [some (.v (rD p rule ran off)), some (.v (.int k)), some (.v (.str c)), some (.o (.lst (ran.map D.str))), none, none, none, none]) := by
    have := lcL_fltT (vs := [7]) (g := hName 7) (t := sB (sOp ninU (sVar 7) (sVar 3))) (f := sVar 7) (ρ := [some (.v (rD p rule ran off)), some (.v (.int k)), some (.v (.str c)), some (.o (.lst (ran.map D.str))), none, none, none, none]) D.str (fun s => if (!decide (s ∈ ran)) = true then some s else none) D.str (raisedOf p (knownOf p.cm c)) (by omega) (fun a ha => by
      have n := (inU_strs a ran).2.2.1
      refine ⟨[some (.v (rD p rule ran off)), some (.v (.int k)), some (.v (.str c)), some (.o (.lst (ran.map D.str))), none, none, none, some (.v (.str a))], rfl, rfl, ?_⟩
      by_cases q : a ∈ ran
      · exact .inl ⟨by simp [q], by simp [Ent.d, n, q]⟩
      · exact .inr ⟨a, .pl 7, by simp [q], by simp [Ent.d, n, q], by simp, by simp [Ent.d]⟩)
    rw [filt_self (fun s => !decide (s ∈ ran))] at this
    exact this
  unfold rD runD at row
  generalize (leftR p c ran).map D.str = L at *
  generalize ran.map D.str = R0 at *
  simp [stR, runD, clsP, Ent.d, kn, row, f, f2]
theorem aboveRow {p : Pn} (o : OkP p) {rule : Str} {ran : List Str} {off : List D} (hr : ∀ x ∈ ran, x ∈ p.names) (hl : ran.length ≤ 1000) {e1 e2 e4 e5 e6 : Option Ent} : ∀ (l acc : List Str) (e3 : Ent), e3.d = .lst (ran.map D.str) → (∀ s ∈ l, s ∈ p.names) → acc.length + l.length ≤ 1000 →
    ∃ e3' : Ent, e3'.d = .lst (ran.map D.str) ∧ lcL [7] (hName 7) (sB (sMeth "Run" m_Run_is_above (sVar 0) (sCons (sVar 7) (sCons (sVar 3) sNil)))) (sVar 7) (l.map D.str) (acc.map D.str) [some (.v (rD p rule ran off)), e1, e2, some e3, e4, e5, e6, none] =
      some ((acc ++ aboveR p l ran).map D.str, [some (.v (rD p rule ran off)), e1, e2, some e3', e4, e5, e6, none])
  | [], acc, e3, h3, _, _ => ⟨e3, h3, by simp [lcL, aboveR]⟩
  | s :: l, acc, e3, h3, hm, hn => by
    have hs := hm s (List.mem_cons_self ..)
    have ab : m_Run_is_above [rD p rule ran off, .str s, .lst (ran.map D.str)] = _ := isAbove_ok o (off := off) (rw := .lst (ran.map D.str)) (ru := .str rule) hs hr hl
    have hn' : acc.length + l.length + 1 ≤ 1000 := by simp at hn; omega
    have cl : isCls "Run" (rD p rule ran off) = true := rfl
    have z : acc.length < 1000000 := by omega
    by_cases q : (ran.all fun o => lessP p o s) = true
    · obtain ⟨e3', h3', ih⟩ := aboveRow o (rule := rule) (off := off) hr hl (e1 := e1) (e2 := e2) (e4 := e4) (e5 := e5) (e6 := e6) l (acc ++ [s]) (.v (.lst (ran.map D.str))) rfl (fun x hx => hm x (List.mem_cons_of_mem _ hx)) (by simp; omega)
      have e : aboveR p (s :: l) ran = s :: aboveR p l ran := by unfold aboveR; rw [List.filter_cons, if_pos q]
      refine ⟨e3', h3', ?_⟩
      rw [e, show acc ++ s :: aboveR p l ran = acc ++ [s] ++ aboveR p l ran by simp, ← ih, List.map_cons, lcL, List.map_append]
      rw [q] at ab
      generalize rD p rule ran off = RD at *
      generalize ran.map D.str = R0 at *
      cases e3 <;> (rename_i x; have h3 : x = .lst R0 := h3; subst h3; simp [Ent.d, cl, ab, z])
    · obtain ⟨e3', h3', ih⟩ := aboveRow o (rule := rule) (off := off) hr hl (e1 := e1) (e2 := e2) (e4 := e4) (e5 := e5) (e6 := e6) l acc (.v (.lst (ran.map D.str))) rfl (fun x hx => hm x (List.mem_cons_of_mem _ hx)) (by omega)
      have e : aboveR p (s :: l) ran = aboveR p l ran := by unfold aboveR; rw [List.filter_cons, if_neg q]
      refine ⟨e3', h3', ?_⟩
      rw [e, ← ih, List.map_cons, lcL]
      rw [Bool.not_eq_true] at q
      rw [q] at ab
      generalize rD p rule ran off = RD at *
      generalize ran.map D.str = R0 at *
      cases e3 <;> (rename_i x; have h3 : x = .lst R0 := h3; subst h3; simp [Ent.d, cl, ab])
theorem call3 {p : Pn} (o : OkP p) {rule : Str} {ran left : List Str} {off : List D} {k : Int} {c : Str} (hr : ∀ x ∈ ran, x ∈ p.names) (hl : ran.length ≤ 1000) (hm : ∀ x ∈ left, x ∈ p.names) (hn : left.length ≤ 1000) :
    rLook (planO p) (.str rule) 5 (sLc (cRel (sVar 4)) [] [7] (hName 7) (sB (sMeth "Run" m_Run_is_above (sVar 0) (sCons (sVar 7) (sCons (sVar 3) sNil)))) (sVar 7)) (stR k c (some (.o (.lst (ran.map D.str)))) (some (.o (.lst (left.map D.str)))) none none) off (.lst (ran.map D.str)) =
      some (stR k c (some (.o (.lst (ran.map D.str)))) (some (.o (.lst (left.map D.str)))) (some (.o (.lst ((aboveR p left ran).map D.str)))) none, off, .lst (ran.map D.str)) := by
  obtain ⟨e3, h3, row⟩ := aboveRow o (rule := rule) (off := off) hr hl (e1 := some (.v (.int k))) (e2 := some (.v (.str c))) (e4 := some (.v (.lst (left.map D.str)))) (e5 := none) (e6 := none) left [] (.o (.lst (ran.map D.str))) rfl hm (by simpa using hn)
  rw [List.map_nil, List.nil_append] at row
  unfold rD at row
  have f := flat_strs ran
  have f2 := flat_strs left
  have f3 := flat_strs (aboveR p left ran)
  generalize (aboveR p left ran).map D.str = A at *
  generalize left.map D.str = L at *
  generalize ran.map D.str = R0 at *
  cases e3 <;> (rename_i x; have h3 : x = .lst R0 := h3; subst h3; simp [stR, Ent.d, row, f, f2, f3])
end Bl
namespace Bl
open PySem PySem.Spec PyProof.Rows L2 Evl
def tailR (pl ru : D) : Rv := rSeq (rIf pl ru (sAnd (sB (sOp eqO (sUn (fldO "Run" 3) (sVar 0)) (sC (.str "strict")))) (sB (sOp ltU (sUn lenD (sVar 5)) (sUn lenD (sVar 4))))) (rSeq (rOff 1)
    (rPl (sSet 4 (sLst sNil)))) (rPl sNext))
    (rSeq (rSetIf pl ru 6 (sB (sOp eqO (sUn (fldO "Run" 3) (sVar 0)) (sC (.str "last")))) (sVar 5) (sVar 4))
    (rRow pl ru (sOp addU (sUn (fldO "Run" 2) (sVar 0)) (sVar 6))))
theorem call4 {pl : D} {rule : Str} {bs bl : Bool} {A L R0 off : List D} {k : Int} {c : Str} (hs : eqO (.str rule) (.str "strict") = some (.val (.bl bs))) (hb : eqO (.str rule) (.str "last") = some (.val (.bl bl))) (f : flatL (.lst R0) = true) (f2 : flatL (.lst L) = true) (f3 : flatL (.lst A) = true)
    (nb : (bs && bl) = false) (ho : off.length < 1000000) (l1 : R0.length + L.length ≤ 1000000) (l2 : R0.length + A.length ≤ 1000000) :
    ∃ ρ', tailR pl (.str rule) (stR k c (some (.o (.lst R0))) (some (.o (.lst L))) (some (.o (.lst A))) none) off (.lst R0) = some (ρ', if bs = true ∧ A.length < L.length then (off ++ [.int k], .lst R0) else (off, .lst (R0 ++ if bl = true then A else L))) := by
  have fa : flatL (.lst (R0 ++ A)) = true := by
    have f : R0.all flatD = true := f
    have f3 : A.all flatD = true := f3
    show (R0 ++ A).all flatD = true
    rw [List.all_append, f, f3]; rfl
  have fl : flatL (.lst (R0 ++ L)) = true := by
    have f : R0.all flatD = true := f
    have f2 : L.all flatD = true := f2
    show (R0 ++ L).all flatD = true
    rw [List.all_append, f, f2]; rfl
  have f0 : flatL (.lst []) = true := rfl
  cases bs with
  | false =>
    cases bl with
    | false => exact ⟨_, by simp [tailR, stR, runD, Ent.d, hs, hb, f, f2, f3, fl, l1]; rfl⟩
    | true => exact ⟨_, by simp [tailR, stR, runD, Ent.d, hs, hb, f, f2, f3, fa, l2]; rfl⟩
  | true =>
    cases bl with
    | true => cases nb
    | false =>
      by_cases q : A.length < L.length
      · have l0 : R0.length ≤ 1000000 := by omega
        exact ⟨_, by simp [tailR, stR, runD, Ent.d, hs, hb, f, f2, f3, f0, q, ho, l0]; rfl⟩
      · exact ⟨_, by simp [tailR, stR, runD, Ent.d, hs, hb, f, f2, f3, fl, q, l1]; rfl⟩
end Bl
namespace Bl
open PySem PySem.Spec PyProof.Rows L2 Evl
structure RuleOk (rule : Str) : Prop where
  s : eqO (.str rule) (.str "strict") = some (.val (.bl (decide (rule = "strict"))))
  l : eqO (.str rule) (.str "last") = some (.val (.bl (decide (rule = "last"))))
theorem leftR_ok {p : Pn} (o : OkP p) {c : Str} (hc : c ∈ p.labels) {ran : List Str} : (∀ x ∈ leftR p c ran, x ∈ p.names ∧ x ∉ ran) ∧ (leftR p c ran).Nodup ∧ (leftR p c ran).length ≤ 9 := by
  have k := knownP_mem o hc
  have s := raisedOf_spec o k.2.1
  have kl := (known_gs o hc).2
  have nd : (raisedOf p (knownOf p.cm c)).Nodup := s.2.imp fun {a b} h e => by
    subst e
    exact (low_ord o).asym a a h h
  unfold leftR
  refine ⟨fun x hx => ?_, nd.filter _, Nat.le_trans (List.length_filter_le _ _) kl⟩
  rw [List.mem_filter] at hx
  exact ⟨k.1 x ((s.1 x).mp hx.1), by simpa using hx.2⟩
theorem call_ok {p : Pn} (o : OkP p) {rule : Str} (ru : RuleOk rule) {z : List Str × List Int} {k : Int} {c : Str} (hc : c ∈ p.labels) (hr : ∀ x ∈ z.1, x ∈ p.names) (hl : z.1.length ≤ 1000) (ho : z.2.length < 1000) :
    m_Run_call (planO p) (z.2.map D.int) (.lst (z.1.map D.str)) (.str rule) (.int k) (.str c) = some ((callM p rule z k c).2.map D.int, .lst ((callM p rule z k c).1.map D.str)) := by
  have lo := leftR_ok o hc (ran := z.1)
  have c2 := call2 o (rule := rule) (ran := z.1) (off := z.2.map D.int) (k := k) hc
  have c3 := call3 o (rule := rule) (ran := z.1) (left := leftR p c z.1) (off := z.2.map D.int) (k := k) (c := c) hr hl (fun x hx => (lo.1 x hx).1) (by omega)
  have al : (aboveR p (leftR p c z.1) z.1).length ≤ (leftR p c z.1).length := List.length_filter_le _ _
  have nb : (decide (rule = "strict") && decide (rule = "last")) = false := by
    by_cases q : rule = "strict"
    · rw [q]; decide
    · simp [q]
  obtain ⟨ρ', c4⟩ := call4 (pl := planO p) (rule := rule) (A := (aboveR p (leftR p c z.1) z.1).map D.str) (L := (leftR p c z.1).map D.str) (R0 := z.1.map D.str) (off := z.2.map D.int) (k := k) (c := c) ru.s ru.l (flat_strs _) (flat_strs _) (flat_strs _) nb (by simp; omega) (by simp; omega) (by simp; omega)
  have e : b_Run_call (planO p) (.str rule) (startR 5 (.int k) (.str c)) (z.2.map D.int) (.lst (z.1.map D.str)) = some (ρ', (callM p rule z k c).2.map D.int, .lst ((callM p rule z k c).1.map D.str)) := by
    show ((rLook (planO p) (.str rule) 3 _ (startR 5 (.int k) (.str c)) (z.2.map D.int) (.lst (z.1.map D.str))).bind fun y => _) = _
    rw [call1, Option.bind_some]
    show ((rLook (planO p) (.str rule) 4 _ (stR k c _ none none none) (z.2.map D.int) (.lst (z.1.map D.str))).bind fun y => _) = _
    rw [c2, Option.bind_some]
    show ((rLook (planO p) (.str rule) 5 _ (stR k c _ _ none none) (z.2.map D.int) (.lst (z.1.map D.str))).bind fun y => _) = _
    rw [c3, Option.bind_some]
    refine c4.trans ?_
    unfold callM
    simp only [List.length_map, decide_eq_true_eq]
    split
    · simp
    · split <;> simp
  show (b_Run_call (planO p) (.str rule) (startR 5 (.int k) (.str c)) (z.2.map D.int) (.lst (z.1.map D.str))).map _ = _
  rw [e]; rfl
theorem callM_ok {p : Pn} (o : OkP p) {rule : Str} {z : List Str × List Int} {k : Int} {c : Str} (hc : c ∈ p.labels) (hr : ∀ x ∈ z.1, x ∈ p.names) (hn : z.1.Nodup) : (∀ x ∈ (callM p rule z k c).1, x ∈ p.names) ∧ (callM p rule z k c).1.Nodup ∧ (callM p rule z k c).2.length ≤ z.2.length + 1 := by
  have lo := leftR_ok o hc (ran := z.1)
  unfold callM
  split
  · exact ⟨hr, hn, by simp⟩
  · have key : ∀ m : List Str, (∀ x ∈ m, x ∈ leftR p c z.1) → m.Nodup → (∀ x ∈ z.1 ++ m, x ∈ p.names) ∧ (z.1 ++ m).Nodup := fun m hm nd => by
      refine ⟨fun x hx => ?_, List.nodup_append.mpr ⟨hn, nd, fun a ha b hb e => ?_⟩⟩
      · rcases List.mem_append.mp hx with h | h
        · exact hr x h
        · exact (lo.1 x (hm x h)).1
      · subst e; exact (lo.1 a (hm a hb)).2 ha
    split
    · have := key (aboveR p (leftR p c z.1) z.1) (fun x hx => (List.mem_filter.mp hx).1) (lo.2.1.filter _)
      exact ⟨this.1, this.2, by simp⟩
    · have := key (leftR p c z.1) (fun _ h => h) lo.2.1
      exact ⟨this.1, this.2, by simp⟩
structure RunOk (p : Pn) (z : List Str × List Int) : Prop where
  sub : ∀ x ∈ z.1, x ∈ p.names
  nd : z.1.Nodup
theorem RunOk.len {p : Pn} (o : OkP p) {z : List Str × List Int} (r : RunOk p z) : z.1.length ≤ 9 := by
  have := nodup_len _ p.names r.nd r.sub
  rw [show p.names.length = p.st.length from List.length_map ..] at this
  exact Nat.le_trans this o.sl
theorem runM_ok {p : Pn} (o : OkP p) {rule : Str} : ∀ (cs : List Str) (k : Int) (z : List Str × List Int), (∀ c ∈ cs, c ∈ p.labels) → RunOk p z → RunOk p (runM p rule cs k z) ∧ (runM p rule cs k z).2.length ≤ z.2.length + cs.length
  | [], _, z, _, r => ⟨r, by simp [runM]⟩
  | c :: cs, k, z, h, r => by
    have q := callM_ok o (rule := rule) (k := k) (h c (List.mem_cons_self ..)) r.sub r.nd
    have ih := runM_ok o (rule := rule) cs (k + 1) (callM p rule z k c) (fun x hx => h x (List.mem_cons_of_mem _ hx)) ⟨q.1, q.2.1⟩
    refine ⟨ih.1, ?_⟩
    have := ih.2
    rw [runM, List.length_cons]
    omega
theorem runL_ok {p : Pn} (o : OkP p) {rule : Str} (ru : RuleOk rule) {e0 e1 e2 e3 e4 e5 : Option Ent} : ∀ (cs : List Str) (k : Nat) (z : List Str × List Int) (e6 e7 : Option Ent), (∀ c ∈ cs, c ∈ p.labels) → RunOk p z → z.2.length + cs.length < 1000 →
    ∃ e6' e7', runL m_Run_call (planO p) (.str rule) (hTup 2 (hCons (hName 6) (hCons (hName 7) hNil))) (sCons (sVar 6) (sCons (sVar 7) sNil)) (enumF k (cs.map D.str)) [e0, e1, e2, e3, e4, e5, e6, e7] (z.2.map D.int) (.lst (z.1.map D.str)) =
      some ([e0, e1, e2, e3, e4, e5, e6', e7'], (runM p rule cs k z).2.map D.int, .lst ((runM p rule cs k z).1.map D.str))
  | [], k, z, e6, e7, _, _, _ => ⟨e6, e7, rfl⟩
  | c :: cs, k, z, e6, e7, h, r, hl => by
    have hc := h c (List.mem_cons_self ..)
    have q := callM_ok o (rule := rule) (k := (k : Int)) hc r.sub r.nd
    have rl := r.len o
    have hl' : z.2.length + cs.length + 1 < 1000 := by simp at hl; omega
    have ca := call_ok o ru (z := z) (k := (k : Int)) hc r.sub (by omega) (by omega)
    obtain ⟨e6', e7', ih⟩ := runL_ok o ru (e0 := e0) (e1 := e1) (e2 := e2) (e3 := e3) (e4 := e4) (e5 := e5) cs (k + 1) (callM p rule z k c) (some (.v (.int (k : Nat)))) (some (.v (.str c))) (fun x hx => h x (List.mem_cons_of_mem _ hx)) ⟨q.1, q.2.1⟩ (by omega)
    refine ⟨e6', e7', ?_⟩
    have e : enumF k ((c :: cs).map D.str) = .tup [.int (k : Nat), .str c] :: enumF (k + 1) (cs.map D.str) := rfl
    have e' : runM p rule (c :: cs) k z = runM p rule cs ((k + 1 : Nat) : Int) (callM p rule z k c) := by rw [runM]; rfl
    rw [e, e', ← ih, runL]
    simp [Ent.d, ca]
end Bl
namespace Bl
open PySem PySem.Spec PyProof.Rows L2 Evl
def outD (p : Pn) (rule : Str) (cs : List Str) : D := runD (planO p) ((runM p rule cs 0 ([], [])).2.map D.int) (.lst ((runM p rule cs 0 ([], [])).1.map D.str)) (.str rule)
theorem run0 (p : Pn) : RunOk p ([], []) := ⟨fun x hx => (by cases hx), List.nodup_nil⟩
theorem runOf_ok {p : Pn} (o : OkP p) {rule : Str} (ru : RuleOk rule) {d h : D} {cs : List Str} (fo : Form d p) (hh : m_tupled 6 [h] = some (.val (.tup (cs.map D.str)))) (hc : ∀ c ∈ cs, c ∈ p.labels) (hl : cs.length ≤ 900) : m_run_of [d, .str rule, h] = some (.val (outD p rule cs)) := by
  have pm := planP_ok o fo
  have lk := (look_ok (p := p) hc).2
  obtain ⟨e6, e7, lp⟩ := runL_ok o ru (e0 := some (.v d)) (e1 := some (.v (.str rule))) (e2 := some (.v h)) (e3 := some (.v (planO p))) (e4 := some (.v (.tup (cs.map D.str)))) (e5 := none) cs 0 ([], []) none none hc (run0 p) (by simp; omega)
  have cl : isCls "Plan" (planO p) = true := rfl
  refine runP_of (ρ := [some (.v d), some (.v (.str rule)), some (.v h), some (.v (planO p)), some (.v (.tup (cs.map D.str))), some (.v (outD p rule cs)), e6, e7])
    ((seq_nx (ρ' := [some (.v d), some (.v (.str rule)), some (.v h), some (.v (planO p)), some (.v (.tup (cs.map D.str))), none, none, none]) ?_).trans
    ((seq_nx (ρ' := [some (.v d), some (.v (.str rule)), some (.v h), some (.v (planO p)), some (.v (.tup (cs.map D.str))), none, none, none]) ?_).trans
    ((seq_nx (ρ' := [some (.v d), some (.v (.str rule)), some (.v h), some (.v (planO p)), some (.v (.tup (cs.map D.str))), some (.v (outD p rule cs)), e6, e7]) ?_).trans ?_)))
  · simp [List.replicate, Ent.d, pm, hh]
  · simp [Ent.d, cl, lk]
  · have a : (sCons (sVar 3) (sCons (sVar 1) sNil)) [some (.v d), some (.v (.str rule)), some (.v h), some (.v (planO p)), some (.v (.tup (cs.map D.str))), none, none, none] = some ([planO p, .str rule], [some (.v d), some (.v (.str rule)), some (.v h), some (.v (planO p)), some (.v (.tup (cs.map D.str))), none, none, none]) := by simp [Ent.d]
    have s : cEnumU (sCons (sVar 4) sNil) [some (.v d), some (.v (.str rule)), some (.v h), some (.v (planO p)), some (.v (.tup (cs.map D.str))), none, none, none] = some (enumF 0 (cs.map D.str), [some (.v d), some (.v (.str rule)), some (.v h), some (.v (planO p)), some (.v (.tup (cs.map D.str))), none, none, none]) := by simp [Ent.d]
    unfold sRunS
    rw [a]
    simp only [Option.bind_some, List.length_cons, List.length_nil, List.set_cons_succ, List.set_cons_zero]
    rw [if_pos (by decide), s]
    simp only [Option.bind_some]
    have lp : runL m_Run_call (planO p) (.str rule) _ _ (enumF 0 (cs.map D.str)) _ [] (.lst []) = _ := lp
    rw [lp]
    rfl
  · simp [Ent.d]
theorem row_ok {p : Pn} (o : OkP p) {rule : Str} (ru : RuleOk rule) {d h : D} {cs : List Str} (fo : Form d p) (hh : m_tupled 6 [h] = some (.val (.tup (cs.map D.str)))) (hc : ∀ c ∈ cs, c ∈ p.labels) (hl : cs.length ≤ 900) : m_row [d, .str rule, h] = some (.val (.tup ((runM p rule cs 0 ([], [])).1.map D.str))) := by
  have ro := runOf_ok o ru fo hh hc hl
  have rl := (runM_ok o (rule := rule) cs 0 ([], []) hc (run0 p)).1.len o
  have ap := allP_strs (runM p rule cs 0 ([], [])).1
  have rw_ : m_Run_row [outD p rule cs] = some (.val (.tup ((runM p rule cs 0 ([], [])).1.map D.str))) := by
    unfold outD
    have z : ((runM p rule cs 0 ([], [])).1.map D.str).length ≤ 1000000 := by rw [List.length_map]; omega
    generalize (runM p rule cs 0 ([], [])).1.map D.str = L at *
    simp [m_Run_row, b_Run_row, runD, List.replicate, Ent.d, ap, z]
  have cl : isCls "Run" (outD p rule cs) = true := rfl
  simp [m_row, b_row, List.replicate, Ent.d, ro, cl, rw_]
end Bl
namespace Bl
open PySem PySem.Spec PyProof.Rows L2 Evl
theorem refused_ok {p : Pn} (o : OkP p) (ru : RuleOk "strict") {d h : D} {cs : List Str} (fo : Form d p) (hh : m_tupled 6 [h] = some (.val (.tup (cs.map D.str)))) (hc : ∀ c ∈ cs, c ∈ p.labels) (hl : cs.length ≤ 900) : m_refused [d, h] = some (.own (.lst ((runM p "strict" cs 0 ([], [])).2.map D.int))) := by
  have ro := runOf_ok o ru fo hh hc hl
  have rw_ : m_Run_refused [outD p "strict" cs] = some (.own (.lst ((runM p "strict" cs 0 ([], [])).2.map D.int))) := by
    unfold outD
    have z : ((runM p "strict" cs 0 ([], [])).2.map D.int).length ≤ 1000000 := by
      rw [List.length_map]
      have := (runM_ok o (rule := "strict") cs 0 ([], []) hc (run0 p)).2
      simp at this
      omega
    generalize (runM p "strict" cs 0 ([], [])).2.map D.int = L at *
    simp [m_Run_refused, b_Run_refused, runD, List.replicate, Ent.d, z]
  have cl : isCls "Run" (outD p "strict" cs) = true := rfl
  simp [m_refused, b_refused, List.replicate, Ent.d, ro, cl, rw_]
end Bl
/-! What houses miss: plain. -/
namespace Bl
open PySem PySem.Spec PyProof.Rows L2 Evl
def NL (p : Pn) (c s : Str) : List Str := (raisedOf p (knownOf p.cm c)).filter fun x => !decide (x = s) && !lessP p x s
theorem mem_NL {p : Pn} (o : OkP p) {c s x : Str} (hc : c ∈ p.labels) : x ∈ NL p c s ↔ x ∈ knownOf p.cm c ∧ x ≠ s ∧ lessP p x s = false := by
  unfold NL
  rw [List.mem_filter, (raisedOf_spec o (knownP_mem o hc).2.1).1]
  simp
/-- the numbers of those that are so -/
def idxF (P : Str → Bool) : Nat → List Str → List Nat
  | _, [] => []
  | k, c :: cs => if P c = true then k :: idxF P (k + 1) cs else idxF P (k + 1) cs
theorem idxF_snoc (P : Str → Bool) : ∀ (cs : List Str) (k : Nat) (c : Str), idxF P k (cs ++ [c]) = idxF P k cs ++ (if P c = true then [k + cs.length] else [])
  | [], k, c => by simp [idxF]
  | d :: cs, k, c => by
    have ih := idxF_snoc P cs (k + 1) c
    rw [List.cons_append, idxF, idxF, ih, List.length_cons, show k + 1 + cs.length = k + (cs.length + 1) by omega]
    split <;> simp
theorem idxF_zip (P : Str → Bool) : ∀ (cs : List Str) (k : Nat), ((cs.zipIdx k).filter fun e => P e.1).map (·.2) = idxF P k cs
  | [], k => rfl
  | c :: cs, k => by
    have ih := idxF_zip P cs (k + 1)
    rw [List.zipIdx_cons, List.filter_cons, idxF]
    split <;> simp [ih]
/-- the first one -/
theorem idxF_first (P : Str → Bool) : ∀ (cs : List Str) (k i : Nat) (c : Str), cs[i]? = some c → P c = true → ∃ j d r, idxF P k cs = (k + j) :: r ∧ j ≤ i ∧ cs[j]? = some d ∧ P d = true
  | [], _, _, _, h, _ => by simp at h
  | d :: cs, k, i, c, h, hp => by
    rw [idxF]
    by_cases q : P d = true
    · exact ⟨0, d, idxF P (k + 1) cs, by rw [if_pos q]; rfl, Nat.zero_le _, rfl, q⟩
    · cases i with
      | zero => simp at h; subst h; exact absurd hp q
      | succ i =>
        obtain ⟨j, e, r, h1, h2, h3, h4⟩ := idxF_first P cs (k + 1) i c (by simpa using h) hp
        exact ⟨j + 1, e, r, by rw [if_neg q, h1, show k + 1 + j = k + (j + 1) by omega], by omega, by simpa using h3, h4⟩
theorem idxF_mem (P : Str → Bool) : ∀ (cs : List Str) (k i : Nat) , i ∈ idxF P k cs → ∃ j c, i = k + j ∧ cs[j]? = some c ∧ P c = true
  | [], _, _, h => by cases h
  | d :: cs, k, i, h => by
    rw [idxF] at h
    have tl : i ∈ idxF P (k + 1) cs → ∃ j c, i = k + j ∧ (d :: cs)[j]? = some c ∧ P c = true := fun h => by
      obtain ⟨j, c, h1, h2, h3⟩ := idxF_mem P cs (k + 1) i h
      exact ⟨j + 1, c, by omega, by simpa using h2, h3⟩
    split at h
    · rename_i q
      rcases List.mem_cons.mp h with z | z
      · exact ⟨0, d, by omega, rfl, q⟩
      · exact tl z
    · exact tl h
/-- what is kept while a house runs by "last" -/
structure Jn (p : Pn) (pre ran : List Str) : Prop where
  known : ∀ x ∈ ran, ∃ (j : Nat) (c : Str), pre[j]? = some c ∧ x ∈ knownOf p.cm c
  early : ∀ (k : Nat) (c s : Str), pre[k]? = some c → s ∈ knownOf p.cm c → s ∉ ran → ∃ (j : Nat) (d : Str), j < k ∧ pre[j]? = some d ∧ NL p d s ≠ []
theorem Jn.step {p : Pn} (o : OkP p) {pre ran : List Str} {c : Str} (hp : ∀ d ∈ pre, d ∈ p.labels) (hc : c ∈ p.labels) (h : Jn p pre ran) : Jn p (pre ++ [c]) (ran ++ aboveR p (leftR p c ran) ran) := by
  have rs := raisedOf_spec o (knownP_mem o hc).2.1
  refine ⟨fun x hx => ?_, fun k d s hk hs hn => ?_⟩
  · rcases List.mem_append.mp hx with q | q
    · obtain ⟨j, d, h1, h2⟩ := h.known x q
      exact ⟨j, d, by rw [List.getElem?_append_left (List.getElem?_eq_some_iff.mp h1).1]; exact h1, h2⟩
    · refine ⟨pre.length, c, by simp, ?_⟩
      exact (rs.1 x).mp (List.mem_filter.mp (List.mem_filter.mp q).1).1
  · rw [List.mem_append, not_or] at hn
    by_cases q : k < pre.length
    · rw [List.getElem?_append_left q] at hk
      obtain ⟨j, e, h1, h2, h3⟩ := h.early k d s hk hs hn.1
      exact ⟨j, e, h1, by rw [List.getElem?_append_left (by omega)]; exact h2, h3⟩
    · have hk' : k = pre.length := by
        have := (List.getElem?_eq_some_iff.mp hk).1
        simp at this; omega
      subst hk'
      have : d = c := by simpa using hk.symm
      subst this
      have hl : s ∈ leftR p d ran := List.mem_filter.mpr ⟨(rs.1 s).mpr hs, by simpa using hn.1⟩
      have na : ¬ (ran.all fun x => lessP p x s) = true := fun z => hn.2 (List.mem_filter.mpr ⟨hl, z⟩)
      rw [List.all_eq_true] at na
      obtain ⟨x, hx, hls⟩ : ∃ x ∈ ran, lessP p x s = false := by
        by_cases z : ∃ x ∈ ran, lessP p x s = false
        · exact z
        · exact absurd (fun x hx => by
            cases e : lessP p x s with
            | true => rfl
            | false => exact absurd ⟨x, hx, e⟩ z) na
      obtain ⟨j, e, h1, h2⟩ := h.known x hx
      have hj := (List.getElem?_eq_some_iff.mp h1).1
      have he := hp e (List.mem_of_getElem? h1)
      refine ⟨j, e, hj, by rw [List.getElem?_append_left hj]; exact h1, fun z => ?_⟩
      have : x ∈ NL p e s := (mem_NL o he).mpr ⟨h2, fun w => hn.1 (w ▸ hx), hls⟩
      rw [z] at this
      cases this
theorem Jn.run {p : Pn} (o : OkP p) : ∀ (cs pre : List Str) (k : Int) (z : List Str × List Int), (∀ c ∈ pre ++ cs, c ∈ p.labels) → Jn p pre z.1 → Jn p (pre ++ cs) (runM p "last" cs k z).1
  | [], pre, k, z, _, h => by rw [List.append_nil]; exact h
  | c :: cs, pre, k, z, hc, h => by
    have st := h.step o (c := c) (fun d hd => hc d (by simp [hd])) (hc c (by simp))
    have e : (callM p "last" z k c).1 = z.1 ++ aboveR p (leftR p c z.1) z.1 := by
      unfold callM
      rw [if_neg (by intro h; exact absurd h.1 (by decide)), if_pos rfl]
    rw [← e] at st
    have := Jn.run o cs (pre ++ [c]) (k + 1) (callM p "last" z k c) (fun d hd => hc d (by simpa using hd)) st
    rw [List.append_assoc] at this
    exact this
def ranL (p : Pn) (cs : List Str) : List Str := (runM p "last" cs 0 ([], [])).1
def knI (p : Pn) (cs : List Str) (s : Str) : List Nat := idxF (fun c => decide (s ∈ knownOf p.cm c)) 0 cs
def eaI (p : Pn) (cs : List Str) (s : Str) : List Nat := idxF (fun c => !(NL p c s).isEmpty) 0 cs
def missB (p : Pn) (cs : List Str) (s : Str) : Bool := !(knI p cs s).isEmpty && !decide (s ∈ ranL p cs)
/-- of what is missed both calls are there, the one ahead of the other -/
theorem miss_facts {p : Pn} (o : OkP p) {cs : List Str} (hc : ∀ c ∈ cs, c ∈ p.labels) {s : Str} (h : missB p cs s = true) :
    ∃ k r j c r' x q, knI p cs s = k :: r ∧ eaI p cs s = j :: r' ∧ j < k ∧ cs[j]? = some c ∧ NL p c s = q ++ [x] ∧ k < cs.length := by
  unfold missB at h
  rw [Bool.and_eq_true] at h
  have hk : knI p cs s ≠ [] := fun z => by rw [z] at h; simp at h
  have hr : s ∉ ranL p cs := fun z => by simp [z] at h
  have J := Jn.run o cs [] 0 ([], []) (by simpa using hc) ⟨fun x hx => (by cases hx), fun k c s hk => (by simp at hk)⟩
  rw [List.nil_append] at J
  obtain ⟨k, r, e⟩ : ∃ k r, knI p cs s = k :: r := by
    cases e : knI p cs s with
    | nil => exact absurd e hk
    | cons k r => exact ⟨k, r, rfl⟩
  obtain ⟨i, d, hi, hd, hs⟩ := idxF_mem _ cs 0 k (by rw [show idxF _ 0 cs = knI p cs s from rfl, e]; simp)
  rw [Nat.zero_add] at hi
  subst hi
  obtain ⟨j, d', hj, hd', hn⟩ := J.early k d s hd (of_decide_eq_true hs) hr
  obtain ⟨j0, c, r', h1, h2, h3, h4⟩ := idxF_first (fun c => !(NL p c s).isEmpty) cs 0 j d' hd' (by
    cases z : NL p d' s with
    | nil => exact absurd z hn
    | cons a l => rfl)
  rw [Nat.zero_add] at h1
  have ne : NL p c s ≠ [] := fun z => by rw [z] at h4; cases h4
  exact ⟨k, r, j0, c, r', (NL p c s).getLast ne, (NL p c s).dropLast, e, h1, by omega, h3, (List.dropLast_concat_getLast ne).symm, (List.getElem?_eq_some_iff.mp hd).1⟩
abbrev Quad := Str × Nat × Nat × Str
def quadD (q : Quad) : D := .tup [.str q.1, .int (q.2.1 : Nat), .int (q.2.2.1 : Nat), .str q.2.2.2]
def quadOf (p : Pn) (cs : List Str) (s : Str) : Quad := (s, (knI p cs s).headD 0, (eaI p cs s).headD 0, (NL p (cs.getD ((eaI p cs s).headD 0) "") s).getLastD "")
def missL (p : Pn) (cs : List Str) : List Quad := (p.names.filter (missB p cs)).map (quadOf p cs)
theorem quad_eq {p : Pn} {cs : List Str} {s c x : Str} {k j : Nat} {r r' : List Nat} {q : List Str} (h1 : knI p cs s = k :: r) (h2 : eaI p cs s = j :: r') (h3 : cs[j]? = some c) (h4 : NL p c s = q ++ [x]) : quadOf p cs s = (s, k, j, x) := by
  unfold quadOf
  rw [h1, h2]
  simp [List.getD_eq_getElem?_getD, h3, h4]
end Bl
namespace Bl
open PySem PySem.Spec PyProof.Rows L2 Evl
local macro_rules | `(tactic| trivial) => `(tactic| first
  | ((with_reducible refine CL.id ?_); first
      | (with_reducible refine CL.mk (by assumption) ?_)
      | (with_reducible refine CL.addI ?_) | (with_reducible refine CL.sub ?_) | (with_reducible refine CL.ltI ?_) | (with_reducible refine CL.ltS ?_)
      | (with_reducible refine CL.cmp ?_) | (with_reducible refine CL.eqI ?_) | (with_reducible refine CL.eqB ?_) | (with_reducible refine CL.lenL ?_) | (with_reducible refine CL.lenT ?_)
      | (with_reducible refine CL.atL (by assumption) ?_) | (with_reducible refine CL.atT (by assumption) ?_)
      | (with_reducible refine CL.atL (at_head _ _) ?_) | (with_reducible refine CL.atT (at_head _ _) ?_)
      | ((with_reducible apply CL.atL); · rfl) | ((with_reducible apply CL.atT); · rfl)
      | (with_reducible refine CL.getS (by assumption) ?_) | (with_reducible refine CL.inD ?_) | (with_reducible refine CL.ninD ?_)
      | (with_reducible refine CL.isN ?_) | (with_reducible refine CL.isntN ?_) | (with_reducible refine CL.intI ?_) | (with_reducible refine CL.intB ?_)
      | (with_reducible refine CL.listL ?_) | (with_reducible refine CL.listT ?_) | (with_reducible refine CL.tupL ?_) | (with_reducible refine CL.tupT ?_)
      | (with_reducible refine CL.repB (by exact Nat.le_of_ble_eq_true rfl) ?_) | (with_reducible refine CL.addL (by first | assumption | (simp only [List.length_append, List.length_map, List.length_cons, List.length_nil]; omega)) ?_)
      | (with_reducible refine CL.all ?_) | ((with_reducible apply CL.fld); · rfl) | (with_reducible refine CL.lstD ?_)
      | (with_reducible refine CL.cutL ?_) | (with_reducible refine CL.cutT (by assumption) ?_) | (with_reducible refine CL.keyS ?_) | (with_reducible refine CL.keyI ?_)
      | (with_reducible refine CL.eqS (by assumption) (by assumption) ?_) | (with_reducible refine CL.neS (by assumption) (by assumption) ?_) | (with_reducible refine CL.neg ?_) | (with_reducible refine CL.neBB ?_) | (with_reducible refine CL.neB ?_) | (with_reducible refine CL.eqBB ?_)
      | (with_reducible refine CL.mk (inU_strs _ _).1 ?_) | (with_reducible refine CL.mk (inU_strs _ _).2.1 ?_) | (with_reducible refine CL.mk (inU_strs _ _).2.2.1 ?_) | (with_reducible refine CL.mk (inU_strs _ _).2.2.2 ?_))
  | ((with_reducible refine WE.id ?_); first
      | ((with_reducible apply WE.vv); · rfl) | ((with_reducible apply WE.vo); · rfl) | ((with_reducible apply WE.va); · rfl)
      | (with_reducible refine WE.c ?_) | (with_reducible refine WE.op ?_) | (with_reducible refine WE.un ?_) | (with_reducible refine WE.call ?_)
      | (with_reducible refine WE.meth ?_) | ((with_reducible apply WE.callI); · rfl) | (with_reducible refine WE.tup ?_) | (with_reducible refine WE.lst ?_)
      | (with_reducible refine WE.slice ?_) | (with_reducible refine WE.callP ?_) | (with_reducible refine WE.make ?_) | (with_reducible refine WE.ite ?_)
      | ((with_reducible apply WE.app); · rfl) | (with_reducible refine WE.andV ?_) | (with_reducible refine WE.orV ?_) | (with_reducible refine WE.notV ?_)
      | (with_reducible refine WE.callT ?_) | ((with_reducible apply WE.ins); · rfl) | ((with_reducible apply WE.popAt); · rfl) | ((with_reducible apply WE.rem); · rfl)
      | ((with_reducible apply WE.upd); · rfl) | (with_reducible refine WE.newD ?_) | (with_reducible refine WE.chain ?_))
  | (with_reducible refine RL.val ?_) | (with_reducible refine RL.own ?_) | ((with_reducible apply RL.v); · rfl) | ((with_reducible apply RL.o); · rfl) | ((with_reducible apply RL.a); · rfl)
  | (with_reducible refine RD.val ?_) | (with_reducible refine RD.own ?_) | ((with_reducible apply RD.v); · rfl) | ((with_reducible apply RD.o); · rfl) | ((with_reducible apply RD.a); · rfl)
  | (with_reducible refine WEs.cons ?_) | (with_reducible refine WEs.nil ?_)
  | (with_reducible refine WT.b ?_) | (with_reducible refine ISB.mk ?_) | (with_reducible refine WT.not ?_) | ((with_reducible apply WT.and2); (· repeat trivial); (· intro _; repeat trivial)) | ((with_reducible apply WT.or2); (· repeat trivial); (· intro _; repeat trivial)) | (with_reducible refine WT.and ?_) | (with_reducible refine WT.or ?_) | (with_reducible refine EW.mk ?_)
  | ((with_reducible apply SRC.mk); (· first | rfl | (exact enum_zip _ _ _) | assumption); (· repeat trivial))
  | ((with_reducible apply LC1.mk); (· rfl); (· intro _; repeat trivial); (· intro _; repeat trivial)) | ((with_reducible refine EK.mk ?_ ?_); · rfl) | (with_reducible refine WT.yes ?_)
  | ((with_reducible refine SQ.nx ?_); try dsimp only [setA, maskA, unmaskA, nthA, List.cons_append, List.nil_append])
  | (with_reducible refine SQ.rt ?_) | (with_reducible refine SQ.bk ?_) | (with_reducible refine SQ.ct ?_)
  | ((with_reducible refine WS.id ?_); first
      | (with_reducible refine WS.seq ?_) | (with_reducible refine WS.set ?_) | (with_reducible refine WS.expr ?_) | (with_reducible refine WS.ret' ?_) | (with_reducible refine WS.ite ?_) | (with_reducible refine WS.asg ?_)
      | (with_reducible refine WS.par ?_) | (with_reducible refine WS.parN ?_) | (with_reducible refine WS.par3 ?_) | (with_reducible refine WS.next ?_) | (with_reducible refine WS.retN ?_) | (with_reducible refine WS.break_ ?_) | (with_reducible refine WS.cont ?_))
  | (with_reducible refine ST.val ?_) | (with_reducible refine ST.own ?_) | (with_reducible refine ST.pl ?_)
  | (with_reducible refine FX.val ?_) | (with_reducible refine FX.own ?_) | (with_reducible refine FX.pl ?_)
  | (with_reducible refine STn.nil ?_) | (with_reducible refine STn.cons ?_) | (with_reducible refine WEo.nil ?_) | (with_reducible refine WEo.cons ?_)
  | (with_reducible refine WG.name ?_) | ((with_reducible apply WG.tup); · rfl) | (with_reducible refine WGs.cons ?_) | (with_reducible refine WGs.nil ?_) | ((with_reducible apply WG.sub); · rfl)
  | (with_reducible refine SZ.mk (by first | assumption | (exact Nat.le_of_ble_eq_true rfl) | omega | exact isCls_ob) ?_)
  | ((with_reducible apply OO.mk); · rfl) | ((with_reducible apply OL.mk); · rfl) | ((with_reducible apply OD.mk); · rfl) | (with_reducible refine OW.mk ?_) | (with_reducible refine DC.mk ?_) | (with_reducible refine NT.mk ?_) | (with_reducible refine SS.mk ?_)
  | (with_reducible refine br_off ?_) | (with_reducible refine br_att ?_) | (with_reducible refine br_ntf ?_) | (with_reducible refine br_ntnt ?_) | (with_reducible refine br_nt ?_) | (with_reducible refine br_t ?_) | (with_reducible refine br_f ?_) | (with_reducible refine br_nf ?_)
  | (with_reducible refine PM.p10 ?_) | (with_reducible refine PM.p210 ?_) | (with_reducible refine PM.p0 ?_) | (with_reducible refine PM.p01 ?_) | (with_reducible refine PM.p201 ?_) | (with_reducible refine PM.p120 ?_) | (with_reducible refine PM.p102 ?_) | (with_reducible refine PM.p021 ?_) | (with_reducible refine PM.p012 ?_)
  | (with_reducible refine SQO.l ?_) | (with_reducible refine SQO.t ?_) | (with_reducible refine ISI.mk ?_)
  | (with_reducible refine WO.none ?_) | (with_reducible refine WO.some ?_) | (with_reducible refine WR.rel ?_) | (with_reducible refine WR.own ?_) | (with_reducible refine WR.enumU ?_) | (with_reducible refine EN.l ?_) | (with_reducible refine EN.t ?_) | (with_reducible refine WR.pl ?_)
  | (with_reducible refine RTn.val ?_) | (with_reducible refine RTn.own ?_) | ((with_reducible apply RTn.v); · rfl) | ((with_reducible apply RTn.o); · rfl)
  | (with_reducible refine PP.rt ?_) | (with_reducible refine PP.nx ?_) | ((with_reducible apply PI.rt); · rfl) | ((with_reducible apply PI.nx); · rfl)
  | (with_reducible refine LP.nx ?_) | (with_reducible refine LP.ct ?_) | (with_reducible refine LP.bk ?_) | (with_reducible refine LP.rt ?_) | (with_reducible refine LD.rt ?_)
  | ((with_reducible refine Wk.id ?_); (try dsimp only [setA, maskA, unmaskA, nthA, List.cons_append, List.nil_append]); (first | (with_reducible refine Wk.same ?_) | (with_reducible refine Wk.u ?_) | (with_reducible refine Wk.va rfl ?_) | (with_reducible refine Wk.oa rfl ?_) | (with_reducible refine Wk.vn ?_) | (with_reducible exact Wk.nil) | ((with_reducible refine Wk.o ?_ ?_); rotate_left) | ((with_reducible refine Wk.v ?_ ?_); rotate_left) | ((with_reducible refine Wk.oa ?_ ?_); rotate_left) | ((with_reducible refine Wk.va ?_ ?_); rotate_left))))
theorem knows_ok {p : Pn} (o : OkP p) {c s : Str} (hc : c ∈ p.labels) : m_Plan_knows [planO p, .str c, .str s] = some (.val (.bl (decide (s ∈ knownOf p.cm c)))) := by
  have g := getK_tab (f := (·.2.2)) hc
  have gt : (getK (tru (look (tab (·.2.2) p.cm) c)) (.inr s)).isSome = decide (s ∈ knownOf p.cm c) := by
    unfold tru
    rw [getK_find (fun s : Str => (Sum.inr s : Key)) (fun _ => D.bl true), Option.isSome_map]
    rw [Bool.eq_iff_iff, List.find?_isSome, decide_eq_true_eq]
    constructor
    · rintro ⟨x, hx, e⟩
      have e : x = s := by simpa using e
      exact e ▸ hx
    · exact fun h => ⟨s, h, by simp⟩
  have f2 : fldO "Plan" 2 (planO p) = some (.val (.dic (tb (tab (·.2.2) p.cm)))) := by simp [planO]
  refine runP_ws (by simp) ?_
  unfold b_Plan_knows; dsimp only [startA]
  repeat trivial
  rw [gt]
theorem notLess_ok {p : Pn} (o : OkP p) {c s : Str} (hc : c ∈ p.labels) (hs : s ∈ p.names) : m_not_less [planO p, .str c, .str s] = some (.own (.lst ((NL p c s).map D.str))) := by
  have kn := planKnown_ok o hc
  have km := knownP_mem o hc
  have rs := raisedOf_spec o km.2.1
  have kl := (known_gs o hc).2
  have ws := worth_ok hs
  have gsS := names_gs o s hs
  refine runP_ws (by simp) ?_
  unfold b_not_less; dsimp only [startA]
  repeat trivial
  refine WE.lc [.v (planO p), .v (.str c), .v (.str s), .n] (raisedOf p (knownOf p.cm c)) D.str (fun x => !decide (x = s) && !lessP p x s) D.str ?_ (by omega) fun x hx => ?_
  · repeat trivial
  · have hx' := km.1 x ((rs.1 x).mp hx)
    have wx := worth_ok hx'
    have gx := names_gs o x hx'
    have ls := less_ok (sz_ok o x) (sz_ok o s)
    repeat trivial
    done
end Bl
namespace Bl
open PySem PySem.Spec PyProof.Rows L2 Evl
local macro_rules | `(tactic| trivial) => `(tactic| first
  | ((with_reducible refine CL.id ?_); first
      | (with_reducible refine CL.mk (by assumption) ?_)
      | (with_reducible refine CL.addI ?_) | (with_reducible refine CL.sub ?_) | (with_reducible refine CL.ltI ?_) | (with_reducible refine CL.ltS ?_)
      | (with_reducible refine CL.cmp ?_) | (with_reducible refine CL.eqI ?_) | (with_reducible refine CL.eqB ?_) | (with_reducible refine CL.lenL ?_) | (with_reducible refine CL.lenT ?_)
      | (with_reducible refine CL.atL (by assumption) ?_) | (with_reducible refine CL.atT (by assumption) ?_)
      | (with_reducible refine CL.atL (at_head _ _) ?_) | (with_reducible refine CL.atT (at_head _ _) ?_)
      | ((with_reducible apply CL.atL); · rfl) | ((with_reducible apply CL.atT); · rfl)
      | (with_reducible refine CL.getS (by assumption) ?_) | (with_reducible refine CL.inD ?_) | (with_reducible refine CL.ninD ?_)
      | (with_reducible refine CL.isN ?_) | (with_reducible refine CL.isntN ?_) | (with_reducible refine CL.intI ?_) | (with_reducible refine CL.intB ?_)
      | (with_reducible refine CL.listL ?_) | (with_reducible refine CL.listT ?_) | (with_reducible refine CL.tupL ?_) | (with_reducible refine CL.tupT ?_)
      | (with_reducible refine CL.repB (by exact Nat.le_of_ble_eq_true rfl) ?_) | (with_reducible refine CL.addL (by first | assumption | (simp only [List.length_append, List.length_map, List.length_cons, List.length_nil]; omega)) ?_)
      | (with_reducible refine CL.all ?_) | ((with_reducible apply CL.fld); · rfl) | (with_reducible refine CL.lstD ?_)
      | (with_reducible refine CL.cutL ?_) | (with_reducible refine CL.cutT (by assumption) ?_) | (with_reducible refine CL.keyS ?_) | (with_reducible refine CL.keyI ?_)
      | (with_reducible refine CL.eqS (by assumption) (by assumption) ?_) | (with_reducible refine CL.neS (by assumption) (by assumption) ?_) | (with_reducible refine CL.neg ?_) | (with_reducible refine CL.neBB ?_) | (with_reducible refine CL.neB ?_) | (with_reducible refine CL.eqBB ?_)
      | (with_reducible refine CL.mk (inU_strs _ _).1 ?_) | (with_reducible refine CL.mk (inU_strs _ _).2.1 ?_) | (with_reducible refine CL.mk (inU_strs _ _).2.2.1 ?_) | (with_reducible refine CL.mk (inU_strs _ _).2.2.2 ?_))
  | ((with_reducible refine WE.id ?_); first
      | ((with_reducible apply WE.vv); · rfl) | ((with_reducible apply WE.vo); · rfl) | ((with_reducible apply WE.va); · rfl)
      | (with_reducible refine WE.c ?_) | (with_reducible refine WE.op ?_) | (with_reducible refine WE.un ?_) | (with_reducible refine WE.call ?_)
      | (with_reducible refine WE.meth ?_) | ((with_reducible apply WE.callI); · rfl) | (with_reducible refine WE.tup ?_) | (with_reducible refine WE.lst ?_)
      | (with_reducible refine WE.slice ?_) | (with_reducible refine WE.callP ?_) | (with_reducible refine WE.make ?_) | (with_reducible refine WE.ite ?_)
      | ((with_reducible apply WE.app); · rfl) | (with_reducible refine WE.andV ?_) | (with_reducible refine WE.orV ?_) | (with_reducible refine WE.notV ?_)
      | (with_reducible refine WE.callT ?_) | ((with_reducible apply WE.ins); · rfl) | ((with_reducible apply WE.popAt); · rfl) | ((with_reducible apply WE.rem); · rfl)
      | ((with_reducible apply WE.upd); · rfl) | (with_reducible refine WE.newD ?_) | (with_reducible refine WE.chain ?_))
  | (with_reducible refine RL.val ?_) | (with_reducible refine RL.own ?_) | ((with_reducible apply RL.v); · rfl) | ((with_reducible apply RL.o); · rfl) | ((with_reducible apply RL.a); · rfl)
  | (with_reducible refine RD.val ?_) | (with_reducible refine RD.own ?_) | ((with_reducible apply RD.v); · rfl) | ((with_reducible apply RD.o); · rfl) | ((with_reducible apply RD.a); · rfl)
  | (with_reducible refine WEs.cons ?_) | (with_reducible refine WEs.nil ?_)
  | (with_reducible refine WT.b ?_) | (with_reducible refine ISB.mk ?_) | (with_reducible refine WT.not ?_) | ((with_reducible apply WT.and2); (· repeat trivial); (· intro _; repeat trivial)) | ((with_reducible apply WT.or2); (· repeat trivial); (· intro _; repeat trivial)) | (with_reducible refine WT.and ?_) | (with_reducible refine WT.or ?_) | (with_reducible refine EW.mk ?_)
  | ((with_reducible apply SRC.mk); (· first | rfl | (exact enum_zip _ _ _) | assumption); (· repeat trivial))
  | ((with_reducible apply LC1.mk); (· rfl); (· intro _; repeat trivial); (· intro _; repeat trivial)) | ((with_reducible refine EK.mk ?_ ?_); · rfl) | (with_reducible refine WT.yes ?_)
  | ((with_reducible refine SQ.nx ?_); try dsimp only [setA, maskA, unmaskA, nthA, List.cons_append, List.nil_append])
  | (with_reducible refine SQ.rt ?_) | (with_reducible refine SQ.bk ?_) | (with_reducible refine SQ.ct ?_)
  | ((with_reducible refine WS.id ?_); first
      | (with_reducible refine WS.seq ?_) | (with_reducible refine WS.set ?_) | (with_reducible refine WS.expr ?_) | (with_reducible refine WS.ret' ?_) | (with_reducible refine WS.ite ?_) | (with_reducible refine WS.asg ?_)
      | (with_reducible refine WS.par ?_) | (with_reducible refine WS.parN ?_) | (with_reducible refine WS.par3 ?_) | (with_reducible refine WS.next ?_) | (with_reducible refine WS.retN ?_) | (with_reducible refine WS.break_ ?_) | (with_reducible refine WS.cont ?_))
  | (with_reducible refine ST.val ?_) | (with_reducible refine ST.own ?_) | (with_reducible refine ST.pl ?_)
  | (with_reducible refine FX.val ?_) | (with_reducible refine FX.own ?_) | (with_reducible refine FX.pl ?_)
  | (with_reducible refine STn.nil ?_) | (with_reducible refine STn.cons ?_) | (with_reducible refine WEo.nil ?_) | (with_reducible refine WEo.cons ?_)
  | (with_reducible refine WG.name ?_) | ((with_reducible apply WG.tup); · rfl) | (with_reducible refine WGs.cons ?_) | (with_reducible refine WGs.nil ?_) | ((with_reducible apply WG.sub); · rfl)
  | (with_reducible refine SZ.mk (by first | assumption | (exact Nat.le_of_ble_eq_true rfl) | omega | exact isCls_ob) ?_)
  | ((with_reducible apply OO.mk); · rfl) | ((with_reducible apply OL.mk); · rfl) | ((with_reducible apply OD.mk); · rfl) | (with_reducible refine OW.mk ?_) | (with_reducible refine DC.mk ?_) | (with_reducible refine NT.mk ?_) | (with_reducible refine SS.mk ?_)
  | (with_reducible refine br_off ?_) | (with_reducible refine br_att ?_) | (with_reducible refine br_ntf ?_) | (with_reducible refine br_ntnt ?_) | (with_reducible refine br_nt ?_) | (with_reducible refine br_t ?_) | (with_reducible refine br_f ?_) | (with_reducible refine br_nf ?_)
  | (with_reducible refine PM.p10 ?_) | (with_reducible refine PM.p210 ?_) | (with_reducible refine PM.p0 ?_) | (with_reducible refine PM.p01 ?_) | (with_reducible refine PM.p201 ?_) | (with_reducible refine PM.p120 ?_) | (with_reducible refine PM.p102 ?_) | (with_reducible refine PM.p021 ?_) | (with_reducible refine PM.p012 ?_)
  | (with_reducible refine SQO.l ?_) | (with_reducible refine SQO.t ?_) | (with_reducible refine ISI.mk ?_)
  | (with_reducible refine WO.none ?_) | (with_reducible refine WO.some ?_) | (with_reducible refine WR.rel ?_) | (with_reducible refine WR.own ?_) | (with_reducible refine WR.enumU ?_) | (with_reducible refine EN.l ?_) | (with_reducible refine EN.t ?_) | (with_reducible refine WR.pl ?_)
  | (with_reducible refine RTn.val ?_) | (with_reducible refine RTn.own ?_) | ((with_reducible apply RTn.v); · rfl) | ((with_reducible apply RTn.o); · rfl)
  | (with_reducible refine PP.rt ?_) | (with_reducible refine PP.nx ?_) | ((with_reducible apply PI.rt); · rfl) | ((with_reducible apply PI.nx); · rfl)
  | (with_reducible refine LP.nx ?_) | (with_reducible refine LP.ct ?_) | (with_reducible refine LP.bk ?_) | (with_reducible refine LP.rt ?_) | (with_reducible refine LD.rt ?_)
  | ((with_reducible refine Wk.id ?_); (try dsimp only [setA, maskA, unmaskA, nthA, List.cons_append, List.nil_append]); (first | (with_reducible refine Wk.same ?_) | (with_reducible refine Wk.u ?_) | (with_reducible refine Wk.va rfl ?_) | (with_reducible refine Wk.oa rfl ?_) | (with_reducible refine Wk.vn ?_) | (with_reducible exact Wk.nil) | ((with_reducible refine Wk.o ?_ ?_); rotate_left) | ((with_reducible refine Wk.v ?_ ?_); rotate_left) | ((with_reducible refine Wk.oa ?_ ?_); rotate_left) | ((with_reducible refine Wk.va ?_ ?_); rotate_left))))
theorem planKeys (p : Pn) : keysIn "Plan" 3 (planO p) = some (p.names.map D.str) := by
  have e : (numD p).map (fun kv => dOf kv.1) = p.names.map D.str := by
    unfold numD Pn.names
    rw [List.map_map, List.map_map]; rfl
  show (if ("Plan" : Str) = "Plan" then some ((numD p).map fun kv => dOf kv.1) else none) = _
  rw [if_pos rfl, e]
theorem ru_last : RuleOk "last" := ⟨eqO_str (by decide +kernel) (by decide +kernel), eqO_str (by decide +kernel) (by decide +kernel)⟩
theorem missed_ok {p : Pn} (o : OkP p) {d h : D} {cs : List Str} (fo : Form d p) (hh : m_tupled 6 [h] = some (.val (.tup (cs.map D.str)))) (hc : ∀ c ∈ cs, c ∈ p.labels) (hl : cs.length ≤ 900) : m_missed [d, h] = some (.own (.lst ((missL p cs).map quadD))) := by
  have pl := planP_ok o fo
  have rw_ : m_row [d, .str "last", h] = some (.val (.tup ((ranL p cs).map D.str))) := row_ok o ru_last fo hh hc hl
  have pk := planKeys p
  have nl : p.names.length ≤ 9 := by have := o.sl; rw [show p.names.length = p.st.length from List.length_map ..]; exact this
  refine runP_ws (by simp) ?_
  unfold b_missed; dsimp only [startA]
  repeat trivial
  refine WS.forT p.names D.str (fun pre A => A = [.v d, .v h, .v (planO p), .v (.tup (cs.map D.str)), .v (.tup ((ranL p cs).map D.str)), .o (.lst (((pre.filter (missB p cs)).map (quadOf p cs)).map quadD)), .u, .u, .u, .n, .n]) ?_ ?_ ?_
  · repeat trivial
    refine ⟨rfl, _, ?_, rfl⟩
    repeat trivial
  · rintro pre s post _ e rfl
    have hs : s ∈ p.names := by rw [e]; simp
    repeat trivial
    refine WE.lc [.v d, .v h, .v (planO p), .v (.tup (cs.map D.str)), .v (.tup ((ranL p cs).map D.str)), .o (.lst (((pre.filter (missB p cs)).map (quadOf p cs)).map quadD)), .v (.str s), .u, .u, .n, .n] cs.zipIdx (fun e => .tup [.int (e.2 : Nat), .str e.1]) (fun e => decide (s ∈ knownOf p.cm e.1)) (fun e => .int (e.2 : Nat)) ?_ (by simp; omega) fun c hcc => ?_
    · repeat trivial
      have e1 : ((cs.zipIdx.filter fun e => decide (s ∈ knownOf p.cm e.1)).map fun e => D.int (e.2 : Nat)) = (knI p cs s).map fun k => D.int (k : Nat) := by
        unfold knI
        rw [← idxF_zip, List.map_map]; rfl
      rw [e1]
      have e2 : (decide ((0 : Int) < (((knI p cs s).map fun k => D.int (k : Nat)).length : Int)) && !decide (s ∈ ranL p cs)) = missB p cs s := by
        unfold missB
        cases knI p cs s <;> simp
      rw [e2]
      refine ⟨fun hm => ?_, fun hm => ?_⟩
      · obtain ⟨k, r, j, c, r', x, q, hk, he, hjk, hcj, hn, hkl⟩ := miss_facts o hc hm
        have hcl : c ∈ p.labels := hc c (List.mem_of_getElem? hcj)
        have nlc := notLess_ok o hcl hs
        have atc : atI (cs.map D.str) (j : Nat) = some (.str c) := by
          have hj : j < cs.length := (List.getElem?_eq_some_iff.mp hcj).1
          have hj' : (j : Int) < (cs.length : Int) := by omega
          simp [atI, ixN, hj', hcj]
        have atx : atI ((NL p c s).map D.str) (-1) = some (.str x) := by
          rw [hn, List.map_append]; exact last_ix
        rw [hk]
        show WS [_, _, _, _, _, _, _, .o (.lst (.int (k : Nat) :: r.map fun k => D.int (k : Nat))), _, _, _] _ _
        repeat trivial
        refine WE.lc [.v d, .v h, .v (planO p), .v (.tup (cs.map D.str)), .v (.tup ((ranL p cs).map D.str)), .o (.lst (((pre.filter (missB p cs)).map (quadOf p cs)).map quadD)), .v (.str s), .o (.lst (.int (k : Nat) :: r.map fun k => D.int (k : Nat))), .u, .n, .n] cs.zipIdx (fun e => .tup [.int (e.2 : Nat), .str e.1]) (fun e => decide ((0 : Int) < (((NL p e.1 s).map D.str).length : Int))) (fun e => .int (e.2 : Nat)) ?_ (by simp; omega) fun c hcc => ?_
        · repeat trivial
          have e3 : ((cs.zipIdx.filter fun e => decide ((0 : Int) < (((NL p e.1 s).map D.str).length : Int))).map fun e => D.int (e.2 : Nat)) = (eaI p cs s).map fun k => D.int (k : Nat) := by
            unfold eaI
            rw [← idxF_zip, List.map_map]
            congr 1
            apply List.filter_congr
            intro z _
            cases NL p z.1 s <;> simp
          rw [e3, he]
          rw [List.map_cons]
          have sz : (((pre.filter (missB p cs)).map (quadOf p cs)).map quadD).length < 1000000 := by
            have h1 := List.length_filter_le (missB p cs) pre
            have h2 : pre.length ≤ p.names.length := by rw [e]; simp
            simp only [List.length_map]
            omega
          repeat trivial
          refine ⟨_, ?_, rfl⟩
          rw [filter_snoc, if_pos hm]
          simp only [List.map_append, List.map_cons, List.map_nil]
          rw [quad_eq hk he hcj hn]
          repeat trivial
        · have hcl : c.1 ∈ p.labels := hc _ (List.fst_mem_of_mem_zipIdx hcc)
          have nlc := notLess_ok o hcl hs
          repeat trivial
      · repeat trivial
        refine ⟨_, ?_, rfl⟩
        rw [filter_snoc, if_neg (by simp [hm])]
        repeat trivial
    · have hcl : c.1 ∈ p.labels := hc _ (List.fst_mem_of_mem_zipIdx hcc)
      have kn := knows_ok o (s := s) hcl
      repeat trivial
  · rintro _ rfl
    repeat trivial
theorem isClean_ok {p : Pn} (o : OkP p) {d h : D} {cs : List Str} (fo : Form d p) (hh : m_tupled 6 [h] = some (.val (.tup (cs.map D.str)))) (hc : ∀ c ∈ cs, c ∈ p.labels) (hl : cs.length ≤ 900) : m_is_clean [d, h] = some (.val (.bl (missL p cs).isEmpty)) := by
  have ms := missed_ok o fo hh hc hl
  refine runP_ws (by simp) ?_
  unfold b_is_clean; dsimp only [startA]
  repeat trivial
  cases missL p cs with
  | nil => rfl
  | cons a l => simp; omega
theorem miss_names {p : Pn} (o : OkP p) {cs : List Str} (hc : ∀ c ∈ cs, c ∈ p.labels) : ∀ q ∈ missL p cs, gs q.1 ∧ gs q.2.2.2 ∧ q.2.2.1 < q.2.1 := fun q hq => by
  obtain ⟨s, hs, rfl⟩ := List.mem_map.mp hq
  obtain ⟨hs, hm⟩ := List.mem_filter.mp hs
  obtain ⟨k, r, j, c, r', x, q, hk, he, hjk, hcj, hn, hkl⟩ := miss_facts o hc hm
  rw [quad_eq hk he hcj hn]
  have hcl : c ∈ p.labels := hc c (List.mem_of_getElem? hcj)
  have hx : x ∈ NL p c s := by rw [hn]; simp
  exact ⟨names_gs o s hs, names_gs o x ((knownP_mem o hcl).1 x ((mem_NL o hcl).mp hx).1), hjk⟩
theorem miss_len {p : Pn} (o : OkP p) (cs : List Str) : (missL p cs).length ≤ 9 := by
  unfold missL
  rw [List.length_map]
  refine Nat.le_trans (List.length_filter_le _ _) ?_
  have := o.sl
  rw [show p.names.length = p.st.length from List.length_map ..]; exact this
theorem py_quad {q : Quad} (h1 : gs q.1) (h2 : gs q.2.2.2) : Py 1 (quadD q) (.tuple [.str q.1, .int (q.2.1 : Nat), .int (q.2.2.1 : Nat), .str q.2.2.2]) :=
  py_tup (α := D × PyData) (f := Prod.fst) (g := Prod.snd) (n := 0) [(.str q.1, .str q.1), (.int (q.2.1 : Nat), .int (q.2.1 : Nat)), (.int (q.2.2.1 : Nat), .int (q.2.2.1 : Nat)), (.str q.2.2.2, .str q.2.2.2)] (by simp [py_str h1, py_str h2, py_int])
end Bl
/-! The three tools beside one another: plain. -/
namespace Bl
open PySem PySem.Spec PyProof.Rows L2 Evl
theorem snocInd {α : Type} {P : List α → Prop} (h0 : P []) (hs : ∀ l c, P l → P (l ++ [c])) (l : List α) : P l := by
  have : ∀ l : List α, P l.reverse := fun l => by
    induction l with
    | nil => exact h0
    | cons a l ih => rw [List.reverse_cons]; exact hs _ _ ih
  have q := this l.reverse
  rwa [List.reverse_reverse] at q
theorem runM_snoc (p : Pn) (rule : Str) : ∀ (cs : List Str) (c : Str) (k : Int) (z : List Str × List Int), runM p rule (cs ++ [c]) k z = callM p rule (runM p rule cs k z) (k + cs.length) c
  | [], c, k, z => by simp [runM]
  | d :: cs, c, k, z => by
    rw [List.cons_append, runM, runM, runM_snoc p rule cs c, List.length_cons, show k + 1 + (cs.length : Int) = k + ((cs.length + 1 : Nat) : Int) by omega]
def rowA (p : Pn) (cs : List Str) : List Str := (runM p "all" cs 0 ([], [])).1
def rowT (p : Pn) (cs : List Str) : List Str := (runM p "strict" cs 0 ([], [])).1
def offS (p : Pn) (cs : List Str) : List Int := (runM p "strict" cs 0 ([], [])).2
theorem rowA_nil (p : Pn) : rowA p [] = [] := rfl
theorem rowA_snoc (p : Pn) (cs : List Str) (c : Str) : rowA p (cs ++ [c]) = rowA p cs ++ leftR p c (rowA p cs) := by
  unfold rowA
  rw [runM_snoc]
  unfold callM
  rw [if_neg (by intro h; exact absurd h.1 (by decide)), if_neg (by decide)]
theorem ranL_snoc (p : Pn) (cs : List Str) (c : Str) : ranL p (cs ++ [c]) = ranL p cs ++ aboveR p (leftR p c (ranL p cs)) (ranL p cs) := by
  unfold ranL
  rw [runM_snoc]
  unfold callM
  rw [if_neg (by intro h; exact absurd h.1 (by decide)), if_pos rfl]
theorem str_snoc (p : Pn) (cs : List Str) (c : Str) : (rowT p (cs ++ [c]), offS p (cs ++ [c])) = if (aboveR p (leftR p c (rowT p cs)) (rowT p cs)).length < (leftR p c (rowT p cs)).length then (rowT p cs, offS p cs ++ [(cs.length : Int)]) else (rowT p cs ++ leftR p c (rowT p cs), offS p cs) := by
  unfold rowT offS
  rw [runM_snoc]
  unfold callM
  by_cases h : (aboveR p (leftR p c (runM p "strict" cs 0 ([], [])).1) (runM p "strict" cs 0 ([], [])).1).length < (leftR p c (runM p "strict" cs 0 ([], [])).1).length
  · rw [if_pos ⟨rfl, h⟩, if_pos h, Int.zero_add]
  · rw [if_neg (fun z => h z.2), if_neg h, if_neg (by decide)]
section
variable {p : Pn} (o : OkP p)
include o
theorem mem_KS {c : Str} (hc : c ∈ p.labels) (x : Str) : x ∈ raisedOf p (knownOf p.cm c) ↔ x ∈ knownOf p.cm c := (raisedOf_spec o (knownP_mem o hc).2.1).1 x
theorem mem_left {c : Str} (hc : c ∈ p.labels) {ran : List Str} {x : Str} : x ∈ leftR p c ran ↔ x ∈ knownOf p.cm c ∧ x ∉ ran := by
  unfold leftR
  rw [List.mem_filter, mem_KS o hc]; simp
/-- who is in the row by "all" -/
theorem mem_rowA : ∀ (cs : List Str), (∀ c ∈ cs, c ∈ p.labels) → ∀ x, x ∈ rowA p cs ↔ ∃ c ∈ cs, x ∈ knownOf p.cm c := fun cs => by
  refine snocInd (P := fun cs => (∀ c ∈ cs, c ∈ p.labels) → ∀ x, x ∈ rowA p cs ↔ ∃ c ∈ cs, x ∈ knownOf p.cm c) (fun _ x => by simp [rowA_nil]) (fun cs c ih hc x => ?_) cs
  have ih := ih (fun d hd => hc d (by simp [hd])) x
  rw [rowA_snoc, List.mem_append, mem_left o (hc c (by simp)), ih]
  constructor
  · rintro (⟨d, hd, h⟩ | ⟨h, _⟩)
    · exact ⟨d, by simp [hd], h⟩
    · exact ⟨c, by simp, h⟩
  · rintro ⟨d, hd, h⟩
    by_cases q : ∃ c ∈ cs, x ∈ knownOf p.cm c
    · exact .inl q
    · rw [List.mem_append, List.mem_singleton] at hd
      rcases hd with hd | rfl
      · exact absurd ⟨d, hd, h⟩ q
      · exact .inr ⟨h, q⟩
theorem rows_sub {rule : Str} {cs : List Str} (hc : ∀ c ∈ cs, c ∈ p.labels) : RunOk p (runM p rule cs 0 ([], [])) := (runM_ok o cs 0 ([], []) hc (run0 p)).1
theorem rowA_nd {cs : List Str} (hc : ∀ c ∈ cs, c ∈ p.labels) : (rowA p cs).Nodup := (rows_sub o hc).nd
theorem less_tr {a b c : Str} (h : lessP p a b = false) (g : lessP p b c = false) : lessP p a c = false := by
  unfold lessP lessF at *
  rw [decide_eq_false_iff_not] at *
  have ha := (sz_ok o a).pos
  have hb := (sz_ok o b).pos
  have hc := (sz_ok o c).pos
  have h1 := (sz_ok o a).1
  have h2 := (sz_ok o b).1
  have h3 := (sz_ok o c).1
  generalize (sz p a).1 = a1 at *
  generalize (sz p a).2 = a2 at *
  generalize (sz p b).1 = b1 at *
  generalize (sz p b).2 = b2 at *
  generalize (sz p c).1 = c1 at *
  generalize (sz p c).2 = c2 at *
  intro z
  -- b1 a2 ≤ a1 b2, c1 b2 ≤ b1 c2, a1 c2 < c1 a2
  have e1 : (b1 * a2) * c2 ≤ (a1 * b2) * c2 := Int.mul_le_mul_of_nonneg_right (by omega) (by omega)
  have e2 : (c1 * b2) * a2 ≤ (b1 * c2) * a2 := Int.mul_le_mul_of_nonneg_right (by omega) (by omega)
  have e3 : (a1 * c2) * b2 < (c1 * a2) * b2 := Int.mul_lt_mul_of_pos_right z (by omega)
  have q1 : (b1 * a2) * c2 = (b1 * c2) * a2 := by rw [Int.mul_right_comm]
  have q2 : (a1 * b2) * c2 = (a1 * c2) * b2 := by rw [Int.mul_right_comm]
  have q3 : (c1 * b2) * a2 = (c1 * a2) * b2 := by rw [Int.mul_right_comm]
  omega
omit o in
theorem low_of_less {a b : Str} (h : lessP p a b = true) : low p a b = true := by
  show (lessF (sz p a) (sz p b) || _) = true
  rw [show lessF (sz p a) (sz p b) = true from h]; rfl
end
/-- beside one another: what "last" runs, and who bars the others -/
structure Two (p : Pn) (A L : List Str) : Prop where
  sub : ∀ x ∈ L, x ∈ A
  eq : L = A.filter fun x => decide (x ∈ L)
  bar : ∀ x ∈ A, x ∉ L → ∃ y ∈ L, lessP p y x = false
  rise : L.Pairwise fun a b => low p a b = true
section
variable {p : Pn} (o : OkP p)
include o
theorem two (cs : List Str) : (∀ c ∈ cs, c ∈ p.labels) → Two p (rowA p cs) (ranL p cs) := by
  refine snocInd (P := fun cs => (∀ c ∈ cs, c ∈ p.labels) → Two p (rowA p cs) (ranL p cs)) (fun _ => ⟨fun x h => (by cases h), rfl, fun x h => (by cases h), List.Pairwise.nil⟩) (fun cs c ih hc => ?_) cs
  have t := ih (fun d hd => hc d (by simp [hd]))
  have hcl := hc c (by simp)
  have B : aboveR p (leftR p c (ranL p cs)) (ranL p cs) = (leftR p c (rowA p cs)).filter fun x => (ranL p cs).all fun y => lessP p y x := by
    unfold aboveR leftR
    rw [List.filter_filter, List.filter_filter]
    apply List.filter_congr
    intro x _
    by_cases h1 : x ∈ ranL p cs
    · simp [h1, t.sub x h1]
    · by_cases h2 : x ∈ rowA p cs
      · obtain ⟨y, hy, hl⟩ := t.bar x h2 h1
        have : ((ranL p cs).all fun y => lessP p y x) = false := by
          rw [List.all_eq_false]
          exact ⟨y, hy, by simp [hl]⟩
        simp [this]
      · simp [h1, h2]
  rw [rowA_snoc, ranL_snoc, B]
  generalize hA : leftR p c (rowA p cs) = A1
  have dis : ∀ x ∈ A1, x ∉ rowA p cs := fun x hx => by rw [← hA] at hx; exact ((mem_left o hcl).mp hx).2
  have rsA : A1.Pairwise fun a b => low p a b = true := by
    rw [← hA]
    exact (raisedOf_spec o (knownP_mem o hcl).2.1).2.filter _
  refine ⟨fun x hx => ?_, ?_, fun x hx hn => ?_, ?_⟩
  · rw [List.mem_append] at hx ⊢
    exact hx.imp (t.sub x) fun h => (List.mem_filter.mp h).1
  · rw [List.filter_append]
    congr 1
    · refine t.eq.trans (List.filter_congr fun x hx => ?_)
      rw [decide_eq_decide, List.mem_append]
      exact ⟨.inl, fun h => h.resolve_right fun z => dis x (List.mem_filter.mp z).1 hx⟩
    · apply List.filter_congr
      intro x hx
      have hL : x ∉ ranL p cs := fun z => dis x hx (t.sub x z)
      rw [Bool.eq_iff_iff, decide_eq_true_eq, List.mem_append, List.mem_filter]
      exact ⟨fun h => .inr ⟨hx, h⟩, fun h => (h.resolve_left hL).2⟩
  · rw [List.mem_append, not_or] at hn
    rw [List.mem_append] at hx
    rcases hx with hx | hx
    · obtain ⟨y, hy, hl⟩ := t.bar x hx hn.1
      exact ⟨y, List.mem_append_left _ hy, hl⟩
    · have : ¬ ((ranL p cs).all fun y => lessP p y x) = true := fun z => hn.2 (List.mem_filter.mpr ⟨hx, z⟩)
      rw [Bool.not_eq_true, List.all_eq_false] at this
      obtain ⟨y, hy, hl⟩ := this
      exact ⟨y, List.mem_append_left _ hy, by simpa using hl⟩
  · rw [List.pairwise_append]
    refine ⟨t.rise, rsA.filter _, fun y hy x hx => ?_⟩
    have := (List.mem_filter.mp hx).2
    rw [List.all_eq_true] at this
    exact low_of_less (this y hy)
end
end Bl
namespace Bl
open PySem PySem.Spec PyProof.Rows L2 Evl
def goneL (p : Pn) (cs : List Str) : List Str := p.names.filter (missB p cs)
theorem gone_miss (p : Pn) (cs : List Str) : (missL p cs).map (·.1) = goneL p cs := by
  unfold missL goneL
  rw [List.map_map]
  exact List.map_id' _
section
variable {p : Pn} (o : OkP p)
include o
theorem mem_gone {cs : List Str} (hc : ∀ c ∈ cs, c ∈ p.labels) {x : Str} : x ∈ goneL p cs ↔ x ∈ rowA p cs ∧ x ∉ ranL p cs := by
  unfold goneL
  rw [List.mem_filter]
  unfold missB
  rw [Bool.and_eq_true, mem_rowA o cs hc]
  have e : (!(knI p cs x).isEmpty) = true ↔ ∃ c ∈ cs, x ∈ knownOf p.cm c := by
    rw [Bool.not_eq_true', List.isEmpty_eq_false_iff]
    constructor
    · intro h
      obtain ⟨i, hi⟩ := List.exists_mem_of_ne_nil _ h
      obtain ⟨j, c, _, h2, h3⟩ := idxF_mem _ _ _ _ hi
      exact ⟨c, List.mem_of_getElem? h2, of_decide_eq_true h3⟩
    · rintro ⟨c, hcc, hx⟩ z
      obtain ⟨i, hi⟩ := List.getElem?_of_mem hcc
      obtain ⟨j, d, r, h1, _⟩ := idxF_first (fun c => decide (x ∈ knownOf p.cm c)) cs 0 i c hi (decide_eq_true hx)
      unfold knI at z
      rw [z] at h1
      cases h1
  rw [e]
  constructor
  · rintro ⟨_, h1, h2⟩
    exact ⟨h1, by simpa using h2⟩
  · rintro ⟨h1, h2⟩
    obtain ⟨c, hcc, hx⟩ := h1
    exact ⟨(knownP_mem o (hc c hcc)).1 x hx, ⟨c, hcc, hx⟩, by simpa using h2⟩
theorem gone_nd (cs : List Str) : (goneL p cs).Nodup := o.nd.filter _
theorem gone_nil {cs : List Str} (hc : ∀ c ∈ cs, c ∈ p.labels) : goneL p cs = [] ↔ ranL p cs = rowA p cs := by
  have t := two o cs hc
  constructor
  · intro h
    refine t.eq.trans (List.filter_eq_self.mpr fun x hx => ?_)
    rw [decide_eq_true_eq]
    by_cases q : x ∈ ranL p cs
    · exact q
    · have := (mem_gone o hc).mpr ⟨hx, q⟩
      rw [h] at this; cases this
  · intro h
    rw [List.eq_nil_iff_forall_not_mem]
    intro x hx
    obtain ⟨h1, h2⟩ := (mem_gone o hc).mp hx
    rw [h] at h2
    exact h2 h1
theorem last_whole {cs : List Str} (hc : ∀ c ∈ cs, c ∈ p.labels) : ranL p cs = (rowA p cs).filter fun x => !decide (x ∈ goneL p cs) := by
  refine (two o cs hc).eq.trans (List.filter_congr fun x hx => ?_)
  by_cases q : x ∈ ranL p cs
  · have : x ∉ goneL p cs := fun z => ((mem_gone o hc).mp z).2 q
    simp [q, this]
  · have : x ∈ goneL p cs := (mem_gone o hc).mpr ⟨hx, q⟩
    simp [q, this]
theorem sort_same {l m : List Str} (hl : l.Nodup) (hm : m.Nodup) (h : ∀ x, x ∈ l ↔ x ∈ m) : sortS l = sortS m :=
  rise_eq (lt := fun a b => ltT a b = true) ltT_ord.asym (sortS_rise hl) (sortS_rise hm) fun x => by rw [mem_sortS, mem_sortS]; exact h x
theorem sort_gone {cs : List Str} (hc : ∀ c ∈ cs, c ∈ p.labels) : sortS (ranL p cs ++ goneL p cs) = sortS (rowA p cs) := by
  have t := two o cs hc
  refine sort_same o ?_ (rowA_nd o hc) fun x => ?_
  · rw [List.nodup_append]
    exact ⟨(rows_sub o hc).nd, gone_nd o cs, fun a ha b hb e => ((mem_gone o hc).mp (e ▸ hb)).2 ha⟩
  · rw [List.mem_append, mem_gone o hc]
    constructor
    · rintro (h | h)
      · exact t.sub x h
      · exact h.1
    · intro h
      by_cases q : x ∈ ranL p cs
      · exact .inl q
      · exact .inr ⟨h, q⟩
theorem sort_every {cs : List Str} (hc : ∀ c ∈ cs, c ∈ p.labels) : sortS (uniq (cs.flatMap fun c => raisedOf p (knownOf p.cm c))) = sortS (rowA p cs) := by
  refine sort_same o (nodup_uniq _) (rowA_nd o hc) fun x => ?_
  rw [mem_uniq, List.mem_flatMap, mem_rowA o cs hc]
  exact ⟨fun ⟨c, h1, h2⟩ => ⟨c, h1, (mem_KS o (hc c h1) x).mp h2⟩, fun ⟨c, h1, h2⟩ => ⟨c, h1, (mem_KS o (hc c h1) x).mpr h2⟩⟩
/-! more calls -/
theorem rowA_more (q : List Str) : ∀ r, (∀ c ∈ q ++ r, c ∈ p.labels) → (∃ t, rowA p (q ++ r) = rowA p q ++ t) ∧ (∃ t, ranL p (q ++ r) = ranL p q ++ t) ∧ (∃ t, rowT p (q ++ r) = rowT p q ++ t) ∧ (∃ t, offS p (q ++ r) = offS p q ++ t) ∧ ∀ x ∈ rowA p q, x ∉ ranL p q → x ∉ ranL p (q ++ r) := fun r => by
  refine snocInd (P := fun r => (∀ c ∈ q ++ r, c ∈ p.labels) → (∃ t, rowA p (q ++ r) = rowA p q ++ t) ∧ (∃ t, ranL p (q ++ r) = ranL p q ++ t) ∧ (∃ t, rowT p (q ++ r) = rowT p q ++ t) ∧ (∃ t, offS p (q ++ r) = offS p q ++ t) ∧ ∀ x ∈ rowA p q, x ∉ ranL p q → x ∉ ranL p (q ++ r)) (fun _ => ?_) (fun r c ih hc => ?_) r
  · rw [List.append_nil]
    exact ⟨⟨[], by simp⟩, ⟨[], by simp⟩, ⟨[], by simp⟩, ⟨[], by simp⟩, fun _ _ h => h⟩
  · have hc' : ∀ d ∈ q ++ r, d ∈ p.labels := fun d hd => hc d (by rw [← List.append_assoc]; exact List.mem_append_left _ hd)
    obtain ⟨⟨t1, e1⟩, ⟨t2, e2⟩, ⟨t3, e3⟩, ⟨t4, e4⟩, h5⟩ := ih hc'
    have hcl : c ∈ p.labels := hc c (by simp)
    rw [← List.append_assoc]
    have st := str_snoc p (q ++ r) c
    refine ⟨⟨t1 ++ leftR p c (rowA p (q ++ r)), by rw [rowA_snoc, e1, List.append_assoc]⟩, ⟨_, by rw [ranL_snoc, e2, List.append_assoc]⟩, ?_, ?_, fun x hx hn => ?_⟩
    · split at st
      · exact ⟨t3, ((Prod.mk.inj st).1).trans e3⟩
      · exact ⟨_, ((Prod.mk.inj st).1).trans (by rw [e3, List.append_assoc])⟩
    · split at st
      · exact ⟨_, ((Prod.mk.inj st).2).trans (by rw [e4, List.append_assoc])⟩
      · exact ⟨t4, ((Prod.mk.inj st).2).trans e4⟩
    · rw [ranL_snoc, List.mem_append, not_or]
      have hxa : x ∈ rowA p (q ++ r) := by rw [e1]; exact List.mem_append_left _ hx
      have hnl := h5 x hx hn
      refine ⟨hnl, fun z => ?_⟩
      have ab := (List.mem_filter.mp z).2
      rw [List.all_eq_true] at ab
      obtain ⟨y, hy, hl⟩ := (two o (q ++ r) hc').bar x hxa hnl
      have := ab y hy
      rw [hl] at this
      cases this
/-! refused calls -/
theorem strict_way (cs : List Str) : (∀ c ∈ cs, c ∈ p.labels) → (offS p cs = [] ∧ rowT p cs = rowA p cs ∧ ranL p cs = rowA p cs) ∨
    ∃ pre c post, cs = pre ++ c :: post ∧ offS p pre = [] ∧ rowT p pre = rowA p pre ∧ ranL p pre = rowA p pre ∧ (∃ t, offS p cs = (pre.length : Int) :: t) ∧ rowT p (pre ++ [c]) = rowT p pre ∧ ∃ x ∈ rowA p (pre ++ [c]), x ∉ ranL p (pre ++ [c]) := by
  refine snocInd (P := fun cs => (∀ c ∈ cs, c ∈ p.labels) → (offS p cs = [] ∧ rowT p cs = rowA p cs ∧ ranL p cs = rowA p cs) ∨
    ∃ pre c post, cs = pre ++ c :: post ∧ offS p pre = [] ∧ rowT p pre = rowA p pre ∧ ranL p pre = rowA p pre ∧ (∃ t, offS p cs = (pre.length : Int) :: t) ∧ rowT p (pre ++ [c]) = rowT p pre ∧ ∃ x ∈ rowA p (pre ++ [c]), x ∉ ranL p (pre ++ [c])) (fun _ => .inl ⟨rfl, rfl, rfl⟩) (fun cs c ih hc => ?_) cs
  have hc' : ∀ d ∈ cs, d ∈ p.labels := fun d hd => hc d (by simp [hd])
  have hcl : c ∈ p.labels := hc c (by simp)
  have st := str_snoc p cs c
  rcases ih hc' with ⟨h1, h2, h3⟩ | ⟨pre, d, post, e, g1, g2, g3, ⟨t, g4⟩, g5, g6⟩
  · rw [h2] at st
    split at st
    · rename_i hlt
      refine .inr ⟨cs, c, [], rfl, h1, h2, h3, ⟨[], ?_⟩, ?_, ?_⟩
      · rw [(Prod.mk.inj st).2, h1]; rfl
      · rw [(Prod.mk.inj st).1, h2]
      · have : ∃ x ∈ leftR p c (rowA p cs), ¬ ((rowA p cs).all fun y => lessP p y x) = true := by
          by_cases q : ∃ x ∈ leftR p c (rowA p cs), ¬ ((rowA p cs).all fun y => lessP p y x) = true
          · exact q
          · exfalso
            have : aboveR p (leftR p c (rowA p cs)) (rowA p cs) = leftR p c (rowA p cs) := List.filter_eq_self.mpr fun x hx => by
              by_cases z : ((rowA p cs).all fun y => lessP p y x) = true
              · exact z
              · exact absurd ⟨x, hx, z⟩ q
            rw [this] at hlt
            exact Nat.lt_irrefl _ hlt
        obtain ⟨x, hx, hn⟩ := this
        refine ⟨x, by rw [rowA_snoc]; exact List.mem_append_right _ hx, ?_⟩
        rw [ranL_snoc, h3, List.mem_append, not_or]
        exact ⟨((mem_left o hcl).mp hx).2, fun z => hn (List.mem_filter.mp z).2⟩
    · rename_i hlt
      have ae : aboveR p (leftR p c (rowA p cs)) (rowA p cs) = leftR p c (rowA p cs) := by
        unfold aboveR
        rw [List.filter_eq_self, ← List.length_filter_eq_length_iff]
        have := List.length_filter_le (fun s => (rowA p cs).all fun y => lessP p y s) (leftR p c (rowA p cs))
        unfold aboveR at hlt
        omega
      refine .inl ⟨?_, ?_, ?_⟩
      · rw [(Prod.mk.inj st).2, h1]
      · rw [(Prod.mk.inj st).1, rowA_snoc]
      · rw [ranL_snoc, rowA_snoc, h3, ae]
  · refine .inr ⟨pre, d, post ++ [c], by rw [e]; simp, g1, g2, g3, ?_, g5, g6⟩
    split at st
    · exact ⟨t ++ [(cs.length : Int)], by rw [(Prod.mk.inj st).2, g4]; rfl⟩
    · exact ⟨t, by rw [(Prod.mk.inj st).2, g4]⟩
theorem off_nil {cs : List Str} (hc : ∀ c ∈ cs, c ∈ p.labels) : offS p cs = [] ↔ goneL p cs = [] := by
  rcases strict_way o cs hc with ⟨h1, h2, h3⟩ | ⟨pre, d, post, e, g1, g2, g3, ⟨t, g4⟩, g5, x, hx, hn⟩
  · exact ⟨fun _ => (gone_nil o hc).mpr h3, fun _ => h1⟩
  · constructor
    · intro z; rw [z] at g4; cases g4
    · intro z
      exfalso
      have e2 : cs = (pre ++ [d]) ++ post := by rw [e]; simp
      have m := rowA_more o (pre ++ [d]) post (by rw [← e2]; exact hc)
      obtain ⟨⟨t1, e1⟩, _, _, _, h5⟩ := m
      have hg : x ∈ goneL p cs := (mem_gone o hc).mpr (by rw [e2]; exact ⟨by rw [e1]; exact List.mem_append_left _ hx, h5 x hx hn⟩)
      rw [z] at hg
      cases hg
end
end Bl
/-! Houses that go along: plain. -/
namespace Bl
open PySem PySem.Spec PyProof.Rows L2 Evl
/-- y is x, or behind x -/
def toR (p : Pn) (x y : Str) : Prop := x = y ∨ x ∈ ahead p.cm y
/-- each call is at the commit of the one ahead of it, or behind that -/
def Along (p : Pn) (cs : List Str) : Prop := cs.Pairwise (toR p)
section
variable {p : Pn} (o : OkP p)
include o
theorem toR_tr {x y z : Str} (hz : z ∈ p.labels) (h : toR p x y) (g : toR p y z) : toR p x z := by
  rcases h with rfl | h
  · exact g
  · rcases g with rfl | g
    · exact .inr h
    · exact .inr (o.okc.ahead_tr hz y g x h)
theorem known_along {x y : Str} (hx : x ∈ p.labels) (hy : y ∈ p.labels) (h : toR p x y) : ∀ s ∈ knownOf p.cm x, s ∈ knownOf p.cm y := fun s hs => by
  rcases h with rfl | h
  · exact hs
  · obtain ⟨c, hc, h1, h2⟩ := (o.okc.known_iff hx s).mp hs
    refine (o.okc.known_iff hy s).mpr ⟨c, hc, h1, .inr ?_⟩
    rcases h2 with rfl | h2
    · exact h
    · exact o.okc.ahead_tr hy x h _ h2
theorem Along.snoc {cs : List Str} {x c : Str} (hl : ∀ d ∈ cs ++ [x], d ∈ p.labels) (hc : c ∈ p.labels) (h : Along p (cs ++ [x])) (g : toR p x c) : Along p (cs ++ [x] ++ [c]) := by
  unfold Along at *
  rw [List.pairwise_append]
  refine ⟨h, List.pairwise_singleton _ _, fun a ha b hb => ?_⟩
  rw [List.mem_singleton] at hb
  subst hb
  rw [List.mem_append, List.mem_singleton] at ha
  rcases ha with ha | rfl
  · rw [List.pairwise_append] at h
    exact toR_tr o hc (h.2.2 a ha x (by simp)) g
  · exact g
/-- what is missed: a call ahead of the first one that knows it knows another one that is not less -/
theorem gone_iff {cs : List Str} (hc : ∀ c ∈ cs, c ∈ p.labels) {x : Str} : x ∈ goneL p cs ↔ ∃ pre c post, cs = pre ++ c :: post ∧ x ∈ knownOf p.cm c ∧ (∀ d ∈ pre, x ∉ knownOf p.cm d) ∧ ∃ d ∈ pre, ∃ y ∈ knownOf p.cm d, lessP p y x = false := by
  have first : x ∈ rowA p cs → ∃ pre c post, cs = pre ++ c :: post ∧ x ∈ knownOf p.cm c ∧ ∀ d ∈ pre, x ∉ knownOf p.cm d := fun h => by
    obtain ⟨c, hcc, hx⟩ := (mem_rowA o cs hc x).mp h
    clear h hc
    induction cs with
    | nil => cases hcc
    | cons a cs ih =>
      by_cases q : x ∈ knownOf p.cm a
      · exact ⟨[], a, cs, rfl, q, fun d hd => (by cases hd)⟩
      · rcases List.mem_cons.mp hcc with rfl | hcc
        · exact absurd hx q
        · obtain ⟨pre, c', post, e, h1, h2⟩ := ih hcc
          refine ⟨a :: pre, c', post, by rw [e]; rfl, h1, fun d hd => ?_⟩
          rcases List.mem_cons.mp hd with rfl | hd
          · exact q
          · exact h2 d hd
  have key : ∀ pre c post, cs = pre ++ c :: post → x ∈ knownOf p.cm c → (∀ d ∈ pre, x ∉ knownOf p.cm d) → (x ∉ ranL p cs ↔ ∃ d ∈ pre, ∃ y ∈ knownOf p.cm d, lessP p y x = false) := fun pre c post e hx hn => by
    have hp : ∀ d ∈ pre, d ∈ p.labels := fun d hd => hc d (by rw [e]; simp [hd])
    have hcl : c ∈ p.labels := hc c (by rw [e]; simp)
    have e2 : cs = (pre ++ [c]) ++ post := by rw [e]; simp
    have hpc : ∀ d ∈ pre ++ [c], d ∈ p.labels := fun d hd => hc d (by rw [e2]; exact List.mem_append_left _ hd)
    have m := rowA_more o (pre ++ [c]) post (by rw [← e2]; exact hc)
    have t := two o pre hp
    have nA : x ∉ rowA p pre := fun z => by
      obtain ⟨d, hd, h⟩ := (mem_rowA o pre hp x).mp z
      exact hn d hd h
    have nL : x ∉ ranL p pre := fun z => nA (t.sub x z)
    have hA : x ∈ rowA p (pre ++ [c]) := by rw [rowA_snoc]; exact List.mem_append_right _ ((mem_left o hcl).mpr ⟨hx, nA⟩)
    have run : x ∈ ranL p (pre ++ [c]) ↔ ∀ y ∈ ranL p pre, lessP p y x = true := by
      rw [ranL_snoc, List.mem_append]
      unfold aboveR
      rw [List.mem_filter, mem_left o hcl, List.all_eq_true]
      exact ⟨fun h => (h.resolve_left nL).2, fun h => .inr ⟨⟨hx, nL⟩, h⟩⟩
    have stay : x ∉ ranL p cs ↔ x ∉ ranL p (pre ++ [c]) := by
      obtain ⟨_, ⟨t2, h2⟩, _, _, h5⟩ := m
      rw [e2]
      exact ⟨fun h z => h (by rw [h2]; exact List.mem_append_left _ z), fun h => h5 x hA h⟩
    rw [stay, run]
    constructor
    · intro h
      have : ∃ y ∈ ranL p pre, lessP p y x = false := by
        by_cases q : ∃ y ∈ ranL p pre, lessP p y x = false
        · exact q
        · exact absurd (fun y hy => by
            cases z : lessP p y x with
            | true => rfl
            | false => exact absurd ⟨y, hy, z⟩ q) h
      obtain ⟨y, hy, hl⟩ := this
      obtain ⟨d, hd, hyd⟩ := (mem_rowA o pre hp y).mp (t.sub y hy)
      exact ⟨d, hd, y, hyd, hl⟩
    · rintro ⟨d, hd, y, hy, hl⟩ h
      have yA : y ∈ rowA p pre := (mem_rowA o pre hp y).mpr ⟨d, hd, hy⟩
      by_cases q : y ∈ ranL p pre
      · have := h y q
        rw [hl] at this; cases this
      · obtain ⟨z, hz, hzl⟩ := t.bar y yA q
        have := h z hz
        rw [less_tr o hzl hl] at this; cases this
  rw [mem_gone o hc]
  constructor
  · rintro ⟨h1, h2⟩
    obtain ⟨pre, c, post, e, hx, hn⟩ := first h1
    exact ⟨pre, c, post, e, hx, hn, (key pre c post e hx hn).mp h2⟩
  · rintro ⟨pre, c, post, e, hx, hn, h⟩
    refine ⟨(mem_rowA o cs hc x).mpr ⟨c, by rw [e]; simp, hx⟩, (key pre c post e hx hn).mpr h⟩
/-- the steps that a house can miss -/
def canB (p : Pn) (x : Str) : Prop := ∃ a b, a ∈ p.labels ∧ b ∈ p.labels ∧ a ∈ ahead p.cm b ∧ x ∉ knownOf p.cm a ∧ x ∈ knownOf p.cm b ∧ ∃ y ∈ knownOf p.cm a, lessP p y x = false
theorem gone_can {cs : List Str} (hc : ∀ c ∈ cs, c ∈ p.labels) (al : Along p cs) {x : Str} (h : x ∈ goneL p cs) : canB p x := by
  obtain ⟨pre, c, post, e, hx, hn, d, hd, y, hy, hl⟩ := (gone_iff o hc).mp h
  have hdl : d ∈ p.labels := hc d (by rw [e]; simp [hd])
  have hcl : c ∈ p.labels := hc c (by rw [e]; simp)
  have r : toR p d c := by
    unfold Along at al
    rw [e, List.pairwise_append] at al
    exact al.2.2 d hd c (by simp)
  rcases r with rfl | r
  · exact absurd hx (hn _ hd)
  · exact ⟨d, c, hdl, hcl, r, hn d hd, hx, y, hy, hl⟩
/-- calls left out ahead of the last one -/
theorem gone_few {cs fs : List Str} (hc : ∀ c ∈ cs, c ∈ p.labels) (al : Along p cs) (sub : fs.Sublist cs) {x : Str} (h : x ∈ goneL p fs) : x ∈ goneL p cs := by
  have hf : ∀ c ∈ fs, c ∈ p.labels := fun c h => hc c (sub.subset h)
  obtain ⟨pre, c, post, e, hx, hn, d, hd, y, hy, hl⟩ := (gone_iff o hf).mp h
  obtain ⟨d1, d2, ed⟩ := List.append_of_mem hd
  -- cs = .. d .. c ..
  have s1 : (d :: (d2 ++ c :: post)).Sublist cs := by
    refine List.Sublist.trans ?_ sub
    rw [e, ed]
    simp
  obtain ⟨q, r, eq, hs⟩ : ∃ q r, cs = q ++ d :: r ∧ (d2 ++ c :: post).Sublist r := by
    obtain ⟨q, r, h1, h2, h3⟩ := List.cons_sublist_iff.mp s1
    obtain ⟨q1, q2, e2⟩ := List.append_of_mem h2
    exact ⟨q1, q2 ++ r, by rw [h1, e2]; simp, h3.trans (List.sublist_append_right _ _)⟩
  have hcr : c ∈ r := hs.subset (by simp)
  have hqd : ∀ a ∈ q ++ [d], x ∉ knownOf p.cm a := fun a ha z => by
    rw [List.mem_append, List.mem_singleton] at ha
    have hdl : d ∈ p.labels := hc d (by rw [eq]; simp)
    rcases ha with ha | rfl
    · have hal : a ∈ p.labels := hc a (by rw [eq]; simp [ha])
      have rel : toR p a d := by
        unfold Along at al
        rw [eq, List.pairwise_append] at al
        exact al.2.2 a ha d (by simp)
      exact hn d hd (known_along o hal hdl rel x z)
    · exact hn _ hd z
  -- the first one in r that knows x
  have first : ∀ r : List Str, c ∈ r → ∃ r1 b r2, r = r1 ++ b :: r2 ∧ x ∈ knownOf p.cm b ∧ ∀ a ∈ r1, x ∉ knownOf p.cm a := fun r => by
    induction r with
    | nil => intro h; cases h
    | cons a r ih =>
      intro h
      by_cases z : x ∈ knownOf p.cm a
      · exact ⟨[], a, r, rfl, z, fun d hd => (by cases hd)⟩
      · rcases List.mem_cons.mp h with rfl | h
        · exact absurd hx z
        · obtain ⟨r1, b, r2, e, h1, h2⟩ := ih h
          refine ⟨a :: r1, b, r2, by rw [e]; rfl, h1, fun d hd => ?_⟩
          rcases List.mem_cons.mp hd with rfl | hd
          · exact z
          · exact h2 d hd
  obtain ⟨r1, b, r2, er, hb, hr1⟩ := first r hcr
  refine (gone_iff o hc).mpr ⟨q ++ d :: r1, b, r2, by rw [eq, er]; simp, hb, fun a ha => ?_, d, by simp, y, hy, hl⟩
  rw [show q ++ d :: r1 = (q ++ [d]) ++ r1 by simp, List.mem_append] at ha
  exact ha.elim (hqd a) (hr1 a)
theorem gone_one {c : Str} (hc : c ∈ p.labels) : goneL p [c] = [] := by
  rw [List.eq_nil_iff_forall_not_mem]
  intro x hx
  obtain ⟨pre, d, post, e, _, _, a, ha, _⟩ := (gone_iff o (cs := [c]) (by simpa using hc)).mp hx
  cases pre with
  | nil => cases ha
  | cons b pre => cases pre <;> cases e
theorem gone_none : goneL p [] = [] := by
  rw [List.eq_nil_iff_forall_not_mem]
  intro x hx
  obtain ⟨pre, d, post, e, _⟩ := (gone_iff o (cs := []) (by simp)).mp hx
  cases pre <;> cases e
end
end Bl
namespace Bl
open PySem PySem.Spec PyProof.Rows L2 Evl
local macro_rules | `(tactic| trivial) => `(tactic| first
  | ((with_reducible refine CL.id ?_); first
      | (with_reducible refine CL.mk (by assumption) ?_)
      | (with_reducible refine CL.addI ?_) | (with_reducible refine CL.sub ?_) | (with_reducible refine CL.ltI ?_) | (with_reducible refine CL.ltS ?_)
      | (with_reducible refine CL.cmp ?_) | (with_reducible refine CL.eqI ?_) | (with_reducible refine CL.eqB ?_) | (with_reducible refine CL.lenL ?_) | (with_reducible refine CL.lenT ?_)
      | (with_reducible refine CL.atL (by assumption) ?_) | (with_reducible refine CL.atT (by assumption) ?_)
      | (with_reducible refine CL.atL (at_head _ _) ?_) | (with_reducible refine CL.atT (at_head _ _) ?_)
      | ((with_reducible apply CL.atL); · rfl) | ((with_reducible apply CL.atT); · rfl)
      | (with_reducible refine CL.getS (by assumption) ?_) | (with_reducible refine CL.inD ?_) | (with_reducible refine CL.ninD ?_)
      | (with_reducible refine CL.isN ?_) | (with_reducible refine CL.isntN ?_) | (with_reducible refine CL.intI ?_) | (with_reducible refine CL.intB ?_)
      | (with_reducible refine CL.listL ?_) | (with_reducible refine CL.listT ?_) | (with_reducible refine CL.tupL ?_) | (with_reducible refine CL.tupT ?_)
      | (with_reducible refine CL.repB (by exact Nat.le_of_ble_eq_true rfl) ?_) | (with_reducible refine CL.addL (by first | assumption | (simp only [List.length_append, List.length_map, List.length_cons, List.length_nil]; omega)) ?_)
      | (with_reducible refine CL.all ?_) | ((with_reducible apply CL.fld); · rfl) | (with_reducible refine CL.lstD ?_)
      | (with_reducible refine CL.cutL ?_) | (with_reducible refine CL.cutT (by assumption) ?_) | (with_reducible refine CL.keyS ?_) | (with_reducible refine CL.keyI ?_)
      | (with_reducible refine CL.eqS (by assumption) (by assumption) ?_) | (with_reducible refine CL.neS (by assumption) (by assumption) ?_) | (with_reducible refine CL.neg ?_) | (with_reducible refine CL.neBB ?_) | (with_reducible refine CL.neB ?_) | (with_reducible refine CL.eqBB ?_)
      | (with_reducible refine CL.mk (inU_strs _ _).1 ?_) | (with_reducible refine CL.mk (inU_strs _ _).2.1 ?_) | (with_reducible refine CL.mk (inU_strs _ _).2.2.1 ?_) | (with_reducible refine CL.mk (inU_strs _ _).2.2.2 ?_))
  | ((with_reducible refine WE.id ?_); first
      | ((with_reducible apply WE.vv); · rfl) | ((with_reducible apply WE.vo); · rfl) | ((with_reducible apply WE.va); · rfl)
      | (with_reducible refine WE.c ?_) | (with_reducible refine WE.op ?_) | (with_reducible refine WE.un ?_) | (with_reducible refine WE.call ?_)
      | (with_reducible refine WE.meth ?_) | ((with_reducible apply WE.callI); · rfl) | (with_reducible refine WE.tup ?_) | (with_reducible refine WE.lst ?_)
      | (with_reducible refine WE.slice ?_) | (with_reducible refine WE.callP ?_) | (with_reducible refine WE.make ?_) | (with_reducible refine WE.ite ?_)
      | ((with_reducible apply WE.app); · rfl) | (with_reducible refine WE.andV ?_) | (with_reducible refine WE.orV ?_) | (with_reducible refine WE.notV ?_)
      | (with_reducible refine WE.callT ?_) | ((with_reducible apply WE.ins); · rfl) | ((with_reducible apply WE.popAt); · rfl) | ((with_reducible apply WE.rem); · rfl)
      | ((with_reducible apply WE.upd); · rfl) | (with_reducible refine WE.newD ?_) | (with_reducible refine WE.chain ?_))
  | (with_reducible refine RL.val ?_) | (with_reducible refine RL.own ?_) | ((with_reducible apply RL.v); · rfl) | ((with_reducible apply RL.o); · rfl) | ((with_reducible apply RL.a); · rfl)
  | (with_reducible refine RD.val ?_) | (with_reducible refine RD.own ?_) | ((with_reducible apply RD.v); · rfl) | ((with_reducible apply RD.o); · rfl) | ((with_reducible apply RD.a); · rfl)
  | (with_reducible refine WEs.cons ?_) | (with_reducible refine WEs.nil ?_)
  | (with_reducible refine WT.b ?_) | (with_reducible refine ISB.mk ?_) | (with_reducible refine WT.not ?_) | ((with_reducible apply WT.and2); (· repeat trivial); (· intro _; repeat trivial)) | ((with_reducible apply WT.or2); (· repeat trivial); (· intro _; repeat trivial)) | (with_reducible refine WT.and ?_) | (with_reducible refine WT.or ?_) | (with_reducible refine EW.mk ?_)
  | ((with_reducible apply SRC.mk); (· first | rfl | (exact enum_zip _ _ _) | assumption); (· repeat trivial))
  | ((with_reducible apply LC1.mk); (· rfl); (· intro _; repeat trivial); (· intro _; repeat trivial)) | ((with_reducible refine EK.mk ?_ ?_); · rfl) | (with_reducible refine WT.yes ?_)
  | ((with_reducible refine SQ.nx ?_); try dsimp only [setA, maskA, unmaskA, nthA, List.cons_append, List.nil_append])
  | (with_reducible refine SQ.rt ?_) | (with_reducible refine SQ.bk ?_) | (with_reducible refine SQ.ct ?_)
  | ((with_reducible refine WS.id ?_); first
      | (with_reducible refine WS.seq ?_) | (with_reducible refine WS.set ?_) | (with_reducible refine WS.expr ?_) | (with_reducible refine WS.ret' ?_) | (with_reducible refine WS.ite ?_) | (with_reducible refine WS.asg ?_)
      | (with_reducible refine WS.par ?_) | (with_reducible refine WS.parN ?_) | (with_reducible refine WS.par3 ?_) | (with_reducible refine WS.next ?_) | (with_reducible refine WS.retN ?_) | (with_reducible refine WS.break_ ?_) | (with_reducible refine WS.cont ?_))
  | (with_reducible refine ST.val ?_) | (with_reducible refine ST.own ?_) | (with_reducible refine ST.pl ?_)
  | (with_reducible refine FX.val ?_) | (with_reducible refine FX.own ?_) | (with_reducible refine FX.pl ?_)
  | (with_reducible refine STn.nil ?_) | (with_reducible refine STn.cons ?_) | (with_reducible refine WEo.nil ?_) | (with_reducible refine WEo.cons ?_)
  | (with_reducible refine WG.name ?_) | ((with_reducible apply WG.tup); · rfl) | (with_reducible refine WGs.cons ?_) | (with_reducible refine WGs.nil ?_) | ((with_reducible apply WG.sub); · rfl)
  | (with_reducible refine SZ.mk (by first | assumption | (exact Nat.le_of_ble_eq_true rfl) | omega | exact isCls_ob) ?_)
  | ((with_reducible apply OO.mk); · rfl) | ((with_reducible apply OL.mk); · rfl) | ((with_reducible apply OD.mk); · rfl) | (with_reducible refine OW.mk ?_) | (with_reducible refine DC.mk ?_) | (with_reducible refine NT.mk ?_) | (with_reducible refine SS.mk ?_)
  | (with_reducible refine br_off ?_) | (with_reducible refine br_att ?_) | (with_reducible refine br_ntf ?_) | (with_reducible refine br_ntnt ?_) | (with_reducible refine br_nt ?_) | (with_reducible refine br_t ?_) | (with_reducible refine br_f ?_) | (with_reducible refine br_nf ?_)
  | (with_reducible refine PM.p10 ?_) | (with_reducible refine PM.p210 ?_) | (with_reducible refine PM.p0 ?_) | (with_reducible refine PM.p01 ?_) | (with_reducible refine PM.p201 ?_) | (with_reducible refine PM.p120 ?_) | (with_reducible refine PM.p102 ?_) | (with_reducible refine PM.p021 ?_) | (with_reducible refine PM.p012 ?_)
  | (with_reducible refine SQO.l ?_) | (with_reducible refine SQO.t ?_) | (with_reducible refine ISI.mk ?_)
  | (with_reducible refine WO.none ?_) | (with_reducible refine WO.some ?_) | (with_reducible refine WR.rel ?_) | (with_reducible refine WR.own ?_) | (with_reducible refine WR.enumU ?_) | (with_reducible refine EN.l ?_) | (with_reducible refine EN.t ?_) | (with_reducible refine WR.pl ?_)
  | (with_reducible refine RTn.val ?_) | (with_reducible refine RTn.own ?_) | ((with_reducible apply RTn.v); · rfl) | ((with_reducible apply RTn.o); · rfl)
  | (with_reducible refine PP.rt ?_) | (with_reducible refine PP.nx ?_) | ((with_reducible apply PI.rt); · rfl) | ((with_reducible apply PI.nx); · rfl)
  | (with_reducible refine LP.nx ?_) | (with_reducible refine LP.ct ?_) | (with_reducible refine LP.bk ?_) | (with_reducible refine LP.rt ?_) | (with_reducible refine LD.rt ?_)
  | ((with_reducible refine Wk.id ?_); (try dsimp only [setA, maskA, unmaskA, nthA, List.cons_append, List.nil_append]); (first | (with_reducible refine Wk.same ?_) | (with_reducible refine Wk.u ?_) | (with_reducible refine Wk.va rfl ?_) | (with_reducible refine Wk.oa rfl ?_) | (with_reducible refine Wk.vn ?_) | (with_reducible exact Wk.nil) | ((with_reducible refine Wk.o ?_ ?_); rotate_left) | ((with_reducible refine Wk.v ?_ ?_); rotate_left) | ((with_reducible refine Wk.oa ?_ ?_); rotate_left) | ((with_reducible refine Wk.va ?_ ?_); rotate_left))))
/-- a drawn house; along, if it is asked -/
theorem lawCallsA {p : Pn} (o : OkP p) {N m : Nat} {b : D} {al : Bool} (hb : Box N b) (hN : N < 900000) (hm : m ≤ 100) :
    ∃ (cs : List Str) (b' : D), m__law_calls b [planD p, .int (m : Nat), .bl al] = some (.val (.tup (cs.map D.str)), b') ∧ (∀ c ∈ cs, c ∈ p.labels) ∧ cs.length = m ∧ Box (N + m) b' ∧ (al = true → Along p cs) := by
  have := runI_ws (n := 10) (f := b__law_calls) (b := b) (ds := [planD p, .int (m : Nat), .bl al]) (P := fun w b' => ∃ cs : List Str, w = .val (.tup (cs.map D.str)) ∧ (∀ c ∈ cs, c ∈ p.labels) ∧ cs.length = m ∧ Box (N + m) b' ∧ (al = true → Along p cs)) (by simp) ?_
  · obtain ⟨w, b', e, cs, rfl, h⟩ := this
    exact ⟨cs, b', e, h⟩
  have fa := facts_ok o
  have gl := labels_gs o
  have ll := labels_len o
  have l0 := labels_ne o
  have cl := o.cl
  have p2 : ixSeq (planD p) (.int 2) = some (.val (.tup (p.cm.map comD))) := rfl
  unfold b__law_calls; dsimp only [startA]
  repeat trivial
  refine WE.map [.o b, .v (planD p), .v (.int (m : Nat)), .v (.bl al), .n, .n, .n, .n, .n, .n, .n] p.cm (fun c => D.tup [.str c.1, .tup (c.2.1.map D.str), .tup (c.2.2.map D.str)]) (fun c => .str c.1) ?_ (by omega) fun c hc => ?_
  rotate_left
  · repeat trivial
  rw [show (p.cm.map fun c => D.str c.1) = p.labels.map D.str by unfold Pn.labels; rw [List.map_map]; rfl]
  repeat trivial
  refine WS.forN m (fun k A => ∃ (b : D) (cs : List Str), A = [.o b, .v (planD p), .v (.int (m : Nat)), .v (.bl al), .a (.lst (p.labels.map D.str)), .v (.dic (tbL (aF p))), .o (.lst (cs.map D.str)), .u, .u, .n, .n] ∧ cs.length = k ∧ (∀ c ∈ cs, c ∈ p.labels) ∧ (al = true → Along p cs) ∧ Box (N + k) b) ?_ ?_ ?_
  · refine WR.rng ?_
    repeat trivial
    refine ⟨m, rfl, by omega, rfl, _, ?_, b, [], rfl, rfl, (fun c hc => by cases hc), (fun _ => List.Pairwise.nil), hb⟩
    repeat trivial
  · rintro k _ hk ⟨b, cs, rfl, hl, hcs, hal, hb⟩
    have ne := neO_mt cs (f := D.str) (g := PyData.str) (n := 0) (fun a ha => py_str (gl a (hcs a ha))) (by decide)
    have sz : (cs.map D.str).length < 1000000 := by rw [List.length_map]; omega
    have fin : ∀ (fr : List Str) (x : Rq), fr ≠ [] → fr.length ≤ 9 → (∀ y ∈ fr, y ∈ p.labels ∧ (al = true → Along p (cs ++ [y]))) → (x = .v (.lst (fr.map D.str)) ∨ x = .o (.lst (fr.map D.str))) → True := fun _ _ _ _ _ _ => trivial
    repeat trivial
    refine ⟨fun h => ?_, fun h => ?_⟩
    · rw [Bool.and_eq_true] at h
      have hne : cs ≠ [] := fun z => by rw [z] at h; cases h.2
      obtain ⟨q, x, rfl⟩ : ∃ q x, cs = q ++ [x] := ⟨cs.dropLast, cs.getLast hne, (List.dropLast_concat_getLast hne).symm⟩
      have hx : x ∈ p.labels := hcs x (by simp)
      have gx := gl x hx
      have atx : atI ((q ++ [x]).map D.str) (-1) = some (.str x) := by rw [List.map_append]; exact last_ix
      repeat trivial
      refine WE.lc [.o b, .v (planD p), .v (.int (m : Nat)), .v (.bl al), .v (.lst (p.labels.map D.str)), .v (.dic (tbL (aF p))), .o (.lst ((q ++ [x]).map D.str)), .u, .u, .n, .n] p.labels D.str (fun a => decide (a = x) || decide (x ∈ look (aF p) a)) D.str ?_ (by omega) fun a ha => ?_
      · have fe : (p.labels.filter fun a => decide (a = x) || decide (x ∈ look (aF p) a)) ≠ [] := fun z => by
          have : x ∈ (p.labels.filter fun a => decide (a = x) || decide (x ∈ look (aF p) a)) := List.mem_filter.mpr ⟨hx, by simp⟩
          rw [z] at this; cases this
        have fl := List.length_filter_le (fun a => decide (a = x) || decide (x ∈ look (aF p) a)) p.labels
        obtain ⟨y, b1, o1, hy, hb1⟩ := of_ok (ds := (p.labels.filter fun a => decide (a = x) || decide (x ∈ look (aF p) a)).map D.str) hb (by omega) (by simpa using fe) (by rw [List.length_map]; omega)
        obtain ⟨c, hc, rfl⟩ := List.mem_map.mp hy
        obtain ⟨hcl, hcx⟩ := List.mem_filter.mp hc
        have rel : toR p x c := by
          rw [Bool.or_eq_true, decide_eq_true_eq, decide_eq_true_eq] at hcx
          rcases hcx with z | z
          · exact .inl z.symm
          · exact .inr (((aF_spec o hcl).1 x).mp z)
        repeat trivial
        refine ⟨_, ?_, b1, q ++ [x] ++ [c], rfl, by rw [← hl]; simp, ?_, fun z => Along.snoc o hcs hcl (hal z) rel, hb1⟩
        · rw [List.map_append (l₂ := [c])]
          repeat trivial
        · intro d hd
          rw [List.mem_append, List.mem_singleton] at hd
          exact hd.elim (hcs d) (fun z => z ▸ hcl)
      · have ga := gl a ha
        have g := getK_tbL (t := aF p) (x := a) (by rw [tabG_keys]; exact ha)
        repeat trivial
    · obtain ⟨y, b1, o1, hy, hb1⟩ := of_ok (ds := p.labels.map D.str) hb (by omega) (by simpa using l0) (by rw [List.length_map]; omega)
      obtain ⟨c, hcl, rfl⟩ := List.mem_map.mp hy
      repeat trivial
      refine ⟨_, ?_, b1, cs ++ [c], rfl, by rw [← hl]; simp, ?_, fun z => ?_, hb1⟩
      · rw [List.map_append]
        repeat trivial
      · intro d hd
        rw [List.mem_append, List.mem_singleton] at hd
        exact hd.elim (hcs d) (fun z => z ▸ hcl)
      · rw [z, Bool.true_and] at h
        have : cs = [] := by simpa using h
        rw [this]
        exact List.pairwise_singleton _ _
  · rintro _ ⟨b, cs, rfl, hl, hcs, hal, hb⟩
    repeat trivial
    exact ⟨cs, rfl, hcs, hl, hb, hal⟩
end Bl
/-! ways: what some house can miss. -/
namespace Bl
open PySem PySem.Spec PyProof.Rows L2 Evl
local macro_rules | `(tactic| trivial) => `(tactic| first
  | ((with_reducible refine CL.id ?_); first
      | (with_reducible refine CL.mk (by assumption) ?_)
      | (with_reducible refine CL.addI ?_) | (with_reducible refine CL.sub ?_) | (with_reducible refine CL.ltI ?_) | (with_reducible refine CL.ltS ?_)
      | (with_reducible refine CL.cmp ?_) | (with_reducible refine CL.eqI ?_) | (with_reducible refine CL.eqB ?_) | (with_reducible refine CL.lenL ?_) | (with_reducible refine CL.lenT ?_)
      | (with_reducible refine CL.atL (by assumption) ?_) | (with_reducible refine CL.atT (by assumption) ?_)
      | (with_reducible refine CL.atL (at_head _ _) ?_) | (with_reducible refine CL.atT (at_head _ _) ?_)
      | ((with_reducible apply CL.atL); · rfl) | ((with_reducible apply CL.atT); · rfl)
      | (with_reducible refine CL.getS (by assumption) ?_) | (with_reducible refine CL.inD ?_) | (with_reducible refine CL.ninD ?_)
      | (with_reducible refine CL.isN ?_) | (with_reducible refine CL.isntN ?_) | (with_reducible refine CL.intI ?_) | (with_reducible refine CL.intB ?_)
      | (with_reducible refine CL.listL ?_) | (with_reducible refine CL.listT ?_) | (with_reducible refine CL.tupL ?_) | (with_reducible refine CL.tupT ?_)
      | (with_reducible refine CL.repB (by exact Nat.le_of_ble_eq_true rfl) ?_) | (with_reducible refine CL.addL (by first | assumption | (simp only [List.length_append, List.length_map, List.length_cons, List.length_nil]; omega)) ?_)
      | (with_reducible refine CL.all ?_) | ((with_reducible apply CL.fld); · rfl) | (with_reducible refine CL.lstD ?_)
      | (with_reducible refine CL.cutL ?_) | (with_reducible refine CL.cutT (by assumption) ?_) | (with_reducible refine CL.keyS ?_) | (with_reducible refine CL.keyI ?_)
      | (with_reducible refine CL.eqS (by assumption) (by assumption) ?_) | (with_reducible refine CL.neS (by assumption) (by assumption) ?_) | (with_reducible refine CL.neg ?_) | (with_reducible refine CL.neBB ?_) | (with_reducible refine CL.neB ?_) | (with_reducible refine CL.eqBB ?_)
      | (with_reducible refine CL.mk (inU_strs _ _).1 ?_) | (with_reducible refine CL.mk (inU_strs _ _).2.1 ?_) | (with_reducible refine CL.mk (inU_strs _ _).2.2.1 ?_) | (with_reducible refine CL.mk (inU_strs _ _).2.2.2 ?_))
  | ((with_reducible refine WE.id ?_); first
      | ((with_reducible apply WE.vv); · rfl) | ((with_reducible apply WE.vo); · rfl) | ((with_reducible apply WE.va); · rfl)
      | (with_reducible refine WE.c ?_) | (with_reducible refine WE.op ?_) | (with_reducible refine WE.un ?_) | (with_reducible refine WE.call ?_)
      | (with_reducible refine WE.meth ?_) | ((with_reducible apply WE.callI); · rfl) | (with_reducible refine WE.tup ?_) | (with_reducible refine WE.lst ?_)
      | (with_reducible refine WE.slice ?_) | (with_reducible refine WE.callP ?_) | (with_reducible refine WE.make ?_) | (with_reducible refine WE.ite ?_)
      | ((with_reducible apply WE.app); · rfl) | (with_reducible refine WE.andV ?_) | (with_reducible refine WE.orV ?_) | (with_reducible refine WE.notV ?_)
      | (with_reducible refine WE.callT ?_) | ((with_reducible apply WE.ins); · rfl) | ((with_reducible apply WE.popAt); · rfl) | ((with_reducible apply WE.rem); · rfl)
      | ((with_reducible apply WE.upd); · rfl) | (with_reducible refine WE.newD ?_) | (with_reducible refine WE.chain ?_))
  | (with_reducible refine RL.val ?_) | (with_reducible refine RL.own ?_) | ((with_reducible apply RL.v); · rfl) | ((with_reducible apply RL.o); · rfl) | ((with_reducible apply RL.a); · rfl)
  | (with_reducible refine RD.val ?_) | (with_reducible refine RD.own ?_) | ((with_reducible apply RD.v); · rfl) | ((with_reducible apply RD.o); · rfl) | ((with_reducible apply RD.a); · rfl)
  | (with_reducible refine WEs.cons ?_) | (with_reducible refine WEs.nil ?_)
  | (with_reducible refine WT.b ?_) | (with_reducible refine ISB.mk ?_) | (with_reducible refine WT.not ?_) | ((with_reducible apply WT.and2); (· repeat trivial); (· intro _; repeat trivial)) | ((with_reducible apply WT.or2); (· repeat trivial); (· intro _; repeat trivial)) | (with_reducible refine WT.and ?_) | (with_reducible refine WT.or ?_) | (with_reducible refine EW.mk ?_)
  | ((with_reducible apply SRC.mk); (· first | rfl | (exact enum_zip _ _ _) | assumption); (· repeat trivial))
  | ((with_reducible apply LC1.mk); (· rfl); (· intro _; repeat trivial); (· intro _; repeat trivial)) | ((with_reducible refine EK.mk ?_ ?_); · rfl) | (with_reducible refine WT.yes ?_)
  | ((with_reducible refine SQ.nx ?_); try dsimp only [setA, maskA, unmaskA, nthA, List.cons_append, List.nil_append])
  | (with_reducible refine SQ.rt ?_) | (with_reducible refine SQ.bk ?_) | (with_reducible refine SQ.ct ?_)
  | ((with_reducible refine WS.id ?_); first
      | (with_reducible refine WS.seq ?_) | (with_reducible refine WS.set ?_) | (with_reducible refine WS.expr ?_) | (with_reducible refine WS.ret' ?_) | (with_reducible refine WS.ite ?_) | (with_reducible refine WS.asg ?_)
      | (with_reducible refine WS.par ?_) | (with_reducible refine WS.parN ?_) | (with_reducible refine WS.par3 ?_) | (with_reducible refine WS.next ?_) | (with_reducible refine WS.retN ?_) | (with_reducible refine WS.break_ ?_) | (with_reducible refine WS.cont ?_))
  | (with_reducible refine ST.val ?_) | (with_reducible refine ST.own ?_) | (with_reducible refine ST.pl ?_)
  | (with_reducible refine FX.val ?_) | (with_reducible refine FX.own ?_) | (with_reducible refine FX.pl ?_)
  | (with_reducible refine STn.nil ?_) | (with_reducible refine STn.cons ?_) | (with_reducible refine WEo.nil ?_) | (with_reducible refine WEo.cons ?_)
  | (with_reducible refine WG.name ?_) | ((with_reducible apply WG.tup); · rfl) | (with_reducible refine WGs.cons ?_) | (with_reducible refine WGs.nil ?_) | ((with_reducible apply WG.sub); · rfl)
  | (with_reducible refine SZ.mk (by first | assumption | (exact Nat.le_of_ble_eq_true rfl) | omega | exact isCls_ob) ?_)
  | ((with_reducible apply OO.mk); · rfl) | ((with_reducible apply OL.mk); · rfl) | ((with_reducible apply OD.mk); · rfl) | (with_reducible refine OW.mk ?_) | (with_reducible refine DC.mk ?_) | (with_reducible refine NT.mk ?_) | (with_reducible refine SS.mk ?_)
  | (with_reducible refine br_off ?_) | (with_reducible refine br_att ?_) | (with_reducible refine br_ntf ?_) | (with_reducible refine br_ntnt ?_) | (with_reducible refine br_nt ?_) | (with_reducible refine br_t ?_) | (with_reducible refine br_f ?_) | (with_reducible refine br_nf ?_)
  | (with_reducible refine PM.p10 ?_) | (with_reducible refine PM.p210 ?_) | (with_reducible refine PM.p0 ?_) | (with_reducible refine PM.p01 ?_) | (with_reducible refine PM.p201 ?_) | (with_reducible refine PM.p120 ?_) | (with_reducible refine PM.p102 ?_) | (with_reducible refine PM.p021 ?_) | (with_reducible refine PM.p012 ?_)
  | (with_reducible refine SQO.l ?_) | (with_reducible refine SQO.t ?_) | (with_reducible refine ISI.mk ?_)
  | (with_reducible refine WO.none ?_) | (with_reducible refine WO.some ?_) | (with_reducible refine WR.rel ?_) | (with_reducible refine WR.own ?_) | (with_reducible refine WR.enumU ?_) | (with_reducible refine EN.l ?_) | (with_reducible refine EN.t ?_) | (with_reducible refine WR.pl ?_)
  | (with_reducible refine RTn.val ?_) | (with_reducible refine RTn.own ?_) | ((with_reducible apply RTn.v); · rfl) | ((with_reducible apply RTn.o); · rfl)
  | (with_reducible refine PP.rt ?_) | (with_reducible refine PP.nx ?_) | ((with_reducible apply PI.rt); · rfl) | ((with_reducible apply PI.nx); · rfl)
  | (with_reducible refine LP.nx ?_) | (with_reducible refine LP.ct ?_) | (with_reducible refine LP.bk ?_) | (with_reducible refine LP.rt ?_) | (with_reducible refine LD.rt ?_)
  | ((with_reducible refine Wk.id ?_); (try dsimp only [setA, maskA, unmaskA, nthA, List.cons_append, List.nil_append]); (first | (with_reducible refine Wk.same ?_) | (with_reducible refine Wk.u ?_) | (with_reducible refine Wk.va rfl ?_) | (with_reducible refine Wk.oa rfl ?_) | (with_reducible refine Wk.vn ?_) | (with_reducible exact Wk.nil) | ((with_reducible refine Wk.o ?_ ?_); rotate_left) | ((with_reducible refine Wk.v ?_ ?_); rotate_left) | ((with_reducible refine Wk.oa ?_ ?_); rotate_left) | ((with_reducible refine Wk.va ?_ ?_); rotate_left))))
theorem commits_labels {p : Pn} : m_Plan_commits [planO p] = some (.own (.lst (p.labels.map D.str))) := by
  have f4 : fldO "Plan" 4 (planO p) = some (.val (.dic (parD p))) := by simp [planO]
  refine runP_ws (by simp) ?_
  unfold b_Plan_commits; dsimp only [startA]
  repeat trivial
  unfold parD Pn.labels
  rw [List.map_map, List.map_map]; rfl
theorem behind_ok {p : Pn} (o : OkP p) {a b : Str} (ha : a ∈ p.labels) : m_Plan_is_behind [planO p, .str a, .str b] = some (.val (.bl (decide (b ∈ ahead p.cm a)))) := by
  have g := getK_tab (f := (·.2.1)) ha
  have gt : (getK (tru (look (tab (·.2.1) p.cm) a)) (.inr b)).isSome = decide (b ∈ ahead p.cm a) := by
    unfold tru
    rw [getK_find (fun s : Str => (Sum.inr s : Key)) (fun _ => D.bl true), Option.isSome_map]
    rw [Bool.eq_iff_iff, List.find?_isSome, decide_eq_true_eq]
    constructor
    · rintro ⟨x, hx, e⟩
      have e : x = b := by simpa using e
      exact e ▸ hx
    · exact fun h => ⟨b, h, by simp⟩
  have f2 : fldO "Plan" 0 (planO p) = some (.val (.dic (tb (tab (·.2.1) p.cm)))) := by simp [planO]
  refine runP_ws (by simp) ?_
  unfold b_Plan_is_behind; dsimp only [startA]
  repeat trivial
  rw [gt]
def earC (p : Pn) (s : Str) : List Str := p.labels.filter fun a => !decide (s ∈ knownOf p.cm a) && decide ((0 : Int) < (((NL p a s).map D.str).length : Int))
def latC (p : Pn) (s : Str) : List Str := p.labels.filter fun a => decide (s ∈ knownOf p.cm a)
/-- the pairs of commits by which a step is missed -/
def pairsC (p : Pn) (s : Str) : List (Str × Str) := (earC p s).flatMap fun a => ((latC p s).filter fun b => decide (a ∈ ahead p.cm b)).map fun b => (a, b)
theorem pairsOf_ok {p : Pn} (o : OkP p) {s : Str} (hs : s ∈ p.names) : m_pairs_of [planO p, .str s] = some (.own (.lst ((pairsC p s).map fun q => .tup [.str q.1, .str q.2]))) := by
  have cm := commits_labels (p := p)
  have ll := labels_len o
  refine runP_ws (by simp) ?_
  unfold b_pairs_of; dsimp only [startA]
  repeat trivial
  refine WE.lc [.v (planO p), .v (.str s), .n, .n, .n, .n, .n] p.labels D.str (fun a => !decide (s ∈ knownOf p.cm a) && decide ((0 : Int) < (((NL p a s).map D.str).length : Int))) D.str ?_ (by omega) fun a ha => ?_
  rotate_left
  · have kn := knows_ok o (s := s) ha
    have nl := notLess_ok o ha hs
    repeat trivial
  repeat trivial
  refine WE.lc [.v (planO p), .v (.str s), .o (.lst ((earC p s).map D.str)), .n, .n, .n, .n] p.labels D.str (fun a => decide (s ∈ knownOf p.cm a)) D.str ?_ (by omega) fun a ha => ?_
  rotate_left
  · have kn := knows_ok o (s := s) ha
    repeat trivial
  repeat trivial
  have l1 : (earC p s).length ≤ 9 := Nat.le_trans (List.length_filter_le _ _) ll
  have l2 : (latC p s).length ≤ 9 := Nat.le_trans (List.length_filter_le _ _) ll
  refine WE.lc2 [.v (planO p), .v (.str s), .v (.lst ((earC p s).map D.str)), .a (.lst ((latC p s).map D.str)), .n, .n, .n] (earC p s) D.str (fun _ => true) (fun _ => latC p s) (fun _ => D.str) (fun a b => decide (a ∈ ahead p.cm b)) (fun a b => .tup [.str a, .str b]) (fun a => [.v (planO p), .v (.str s), .v (.lst ((earC p s).map D.str)), .v (.lst ((latC p s).map D.str)), .n, .v (.str a), .n]) ?_ 9 (by omega) (fun _ _ => l2) (fun a ha => ?_) (fun a ha _ b hb => ?_)
  · repeat trivial
    unfold pairsC
    rw [List.map_flatMap, show (earC p s).filter (fun _ => true) = earC p s by simp]
    simp only [List.map_map]
    rfl
  · repeat trivial
  · have hbl : b ∈ p.labels := (List.mem_filter.mp hb).1
    have bh := behind_ok o (b := a) hbl
    repeat trivial
def canL (p : Pn) : List Str := p.names.filter fun s => decide ((0 : Int) < (((pairsC p s).map fun q => D.tup [.str q.1, .str q.2]).length : Int))
theorem canMiss_ok {p : Pn} (o : OkP p) {d : D} (fo : Form d p) : m_can_miss [d] = some (.own (.lst ((canL p).map D.str))) := by
  have pl := planP_ok o fo
  have pk : keysIn "Plan" 3 (planO p) = some (p.names.map D.str) := by
    have e : (numD p).map (fun kv => dOf kv.1) = p.names.map D.str := by
      unfold numD Pn.names
      rw [List.map_map, List.map_map]; rfl
    show (if ("Plan" : Str) = "Plan" then some ((numD p).map fun kv => dOf kv.1) else none) = _
    rw [if_pos rfl, e]
  have nl : p.names.length ≤ 9 := by have := o.sl; rw [show p.names.length = p.st.length from List.length_map ..]; exact this
  refine runP_ws (by simp) ?_
  unfold b_can_miss; dsimp only [startA]
  repeat trivial
  refine WE.lc [.v d, .v (planO p), .n] p.names D.str (fun s => decide ((0 : Int) < (((pairsC p s).map fun q => D.tup [.str q.1, .str q.2]).length : Int))) D.str ?_ (by omega) fun s hs => ?_
  · repeat trivial
  · have po := pairsOf_ok o hs
    repeat trivial
theorem mem_can {p : Pn} (o : OkP p) {s : Str} : s ∈ canL p ↔ s ∈ p.names ∧ canB p s := by
  unfold canL
  rw [List.mem_filter, decide_eq_true_eq]
  have e : ((0 : Int) < (((pairsC p s).map fun q => D.tup [.str q.1, .str q.2]).length : Int)) ↔ ∃ q, q ∈ pairsC p s := by
    rw [List.length_map]
    cases pairsC p s with
    | nil => simp
    | cons a l => simp
  rw [e]
  refine and_congr_right fun hs => ?_
  constructor
  · rintro ⟨q, hq⟩
    unfold pairsC at hq
    obtain ⟨a, ha, hq⟩ := List.mem_flatMap.mp hq
    obtain ⟨b, hb, rfl⟩ := List.mem_map.mp hq
    obtain ⟨hb, hab⟩ := List.mem_filter.mp hb
    obtain ⟨hal, ha⟩ := List.mem_filter.mp ha
    obtain ⟨hbl, hb⟩ := List.mem_filter.mp hb
    rw [Bool.and_eq_true, Bool.not_eq_true', decide_eq_false_iff_not] at ha
    have ne : NL p a s ≠ [] := fun z => by rw [z] at ha; exact absurd (of_decide_eq_true ha.2) (by decide)
    obtain ⟨y, hy⟩ := List.exists_mem_of_ne_nil _ ne
    have hy := (mem_NL o hal).mp hy
    exact ⟨a, b, hal, hbl, of_decide_eq_true hab, ha.1, of_decide_eq_true hb, y, hy.1, hy.2.2⟩
  · rintro ⟨a, b, hal, hbl, hab, hna, hb, y, hy, hl⟩
    have hyn : y ∈ NL p a s := (mem_NL o hal).mpr ⟨hy, fun z => hna (z ▸ hy), hl⟩
    refine ⟨(a, b), List.mem_flatMap.mpr ⟨a, List.mem_filter.mpr ⟨hal, ?_⟩, List.mem_map.mpr ⟨b, List.mem_filter.mpr ⟨List.mem_filter.mpr ⟨hbl, decide_eq_true hb⟩, decide_eq_true hab⟩, rfl⟩⟩⟩
    rw [Bool.and_eq_true, Bool.not_eq_true', decide_eq_false_iff_not]
    refine ⟨hna, decide_eq_true ?_⟩
    rw [List.length_map]
    have := List.length_pos_of_mem hyn
    omega
end Bl
namespace Bl
open PySem PySem.Spec PyProof.Rows L2 Evl
local macro_rules | `(tactic| trivial) => `(tactic| first
  | ((with_reducible refine CL.id ?_); first
      | (with_reducible refine CL.mk (by assumption) ?_)
      | (with_reducible refine CL.addI ?_) | (with_reducible refine CL.sub ?_) | (with_reducible refine CL.ltI ?_) | (with_reducible refine CL.ltS ?_)
      | (with_reducible refine CL.cmp ?_) | (with_reducible refine CL.eqI ?_) | (with_reducible refine CL.eqB ?_) | (with_reducible refine CL.lenL ?_) | (with_reducible refine CL.lenT ?_)
      | (with_reducible refine CL.atL (by assumption) ?_) | (with_reducible refine CL.atT (by assumption) ?_)
      | (with_reducible refine CL.atL (at_head _ _) ?_) | (with_reducible refine CL.atT (at_head _ _) ?_)
      | ((with_reducible apply CL.atL); · rfl) | ((with_reducible apply CL.atT); · rfl)
      | (with_reducible refine CL.getS (by assumption) ?_) | (with_reducible refine CL.inD ?_) | (with_reducible refine CL.ninD ?_)
      | (with_reducible refine CL.isN ?_) | (with_reducible refine CL.isntN ?_) | (with_reducible refine CL.intI ?_) | (with_reducible refine CL.intB ?_)
      | (with_reducible refine CL.listL ?_) | (with_reducible refine CL.listT ?_) | (with_reducible refine CL.tupL ?_) | (with_reducible refine CL.tupT ?_)
      | (with_reducible refine CL.repB (by exact Nat.le_of_ble_eq_true rfl) ?_) | (with_reducible refine CL.addL (by first | assumption | (simp only [List.length_append, List.length_map, List.length_cons, List.length_nil]; omega)) ?_)
      | (with_reducible refine CL.all ?_) | ((with_reducible apply CL.fld); · rfl) | (with_reducible refine CL.lstD ?_)
      | (with_reducible refine CL.cutL ?_) | (with_reducible refine CL.cutT (by assumption) ?_) | (with_reducible refine CL.keyS ?_) | (with_reducible refine CL.keyI ?_)
      | (with_reducible refine CL.eqS (by assumption) (by assumption) ?_) | (with_reducible refine CL.neS (by assumption) (by assumption) ?_) | (with_reducible refine CL.neg ?_) | (with_reducible refine CL.neBB ?_) | (with_reducible refine CL.neB ?_) | (with_reducible refine CL.eqBB ?_)
      | (with_reducible refine CL.mk (inU_strs _ _).1 ?_) | (with_reducible refine CL.mk (inU_strs _ _).2.1 ?_) | (with_reducible refine CL.mk (inU_strs _ _).2.2.1 ?_) | (with_reducible refine CL.mk (inU_strs _ _).2.2.2 ?_))
  | ((with_reducible refine WE.id ?_); first
      | ((with_reducible apply WE.vv); · rfl) | ((with_reducible apply WE.vo); · rfl) | ((with_reducible apply WE.va); · rfl)
      | (with_reducible refine WE.c ?_) | (with_reducible refine WE.op ?_) | (with_reducible refine WE.un ?_) | (with_reducible refine WE.call ?_)
      | (with_reducible refine WE.meth ?_) | ((with_reducible apply WE.callI); · rfl) | (with_reducible refine WE.tup ?_) | (with_reducible refine WE.lst ?_)
      | (with_reducible refine WE.slice ?_) | (with_reducible refine WE.callP ?_) | (with_reducible refine WE.make ?_) | (with_reducible refine WE.ite ?_)
      | ((with_reducible apply WE.app); · rfl) | (with_reducible refine WE.andV ?_) | (with_reducible refine WE.orV ?_) | (with_reducible refine WE.notV ?_)
      | (with_reducible refine WE.callT ?_) | ((with_reducible apply WE.ins); · rfl) | ((with_reducible apply WE.popAt); · rfl) | ((with_reducible apply WE.rem); · rfl)
      | ((with_reducible apply WE.upd); · rfl) | (with_reducible refine WE.newD ?_) | (with_reducible refine WE.chain ?_))
  | (with_reducible refine RL.val ?_) | (with_reducible refine RL.own ?_) | ((with_reducible apply RL.v); · rfl) | ((with_reducible apply RL.o); · rfl) | ((with_reducible apply RL.a); · rfl)
  | (with_reducible refine RD.val ?_) | (with_reducible refine RD.own ?_) | ((with_reducible apply RD.v); · rfl) | ((with_reducible apply RD.o); · rfl) | ((with_reducible apply RD.a); · rfl)
  | (with_reducible refine WEs.cons ?_) | (with_reducible refine WEs.nil ?_)
  | (with_reducible refine WT.b ?_) | (with_reducible refine ISB.mk ?_) | (with_reducible refine WT.not ?_) | ((with_reducible apply WT.and2); (· repeat trivial); (· intro _; repeat trivial)) | ((with_reducible apply WT.or2); (· repeat trivial); (· intro _; repeat trivial)) | (with_reducible refine WT.and ?_) | (with_reducible refine WT.or ?_) | (with_reducible refine EW.mk ?_)
  | ((with_reducible apply SRC.mk); (· first | rfl | (exact enum_zip _ _ _) | assumption); (· repeat trivial))
  | ((with_reducible apply LC1.mk); (· rfl); (· intro _; repeat trivial); (· intro _; repeat trivial)) | ((with_reducible refine EK.mk ?_ ?_); · rfl) | (with_reducible refine WT.yes ?_)
  | ((with_reducible refine SQ.nx ?_); try dsimp only [setA, maskA, unmaskA, nthA, List.cons_append, List.nil_append])
  | (with_reducible refine SQ.rt ?_) | (with_reducible refine SQ.bk ?_) | (with_reducible refine SQ.ct ?_)
  | ((with_reducible refine WS.id ?_); first
      | (with_reducible refine WS.seq ?_) | (with_reducible refine WS.set ?_) | (with_reducible refine WS.expr ?_) | (with_reducible refine WS.ret' ?_) | (with_reducible refine WS.ite ?_) | (with_reducible refine WS.asg ?_)
      | (with_reducible refine WS.par ?_) | (with_reducible refine WS.parN ?_) | (with_reducible refine WS.par3 ?_) | (with_reducible refine WS.next ?_) | (with_reducible refine WS.retN ?_) | (with_reducible refine WS.break_ ?_) | (with_reducible refine WS.cont ?_))
  | (with_reducible refine ST.val ?_) | (with_reducible refine ST.own ?_) | (with_reducible refine ST.pl ?_)
  | (with_reducible refine FX.val ?_) | (with_reducible refine FX.own ?_) | (with_reducible refine FX.pl ?_)
  | (with_reducible refine STn.nil ?_) | (with_reducible refine STn.cons ?_) | (with_reducible refine WEo.nil ?_) | (with_reducible refine WEo.cons ?_)
  | (with_reducible refine WG.name ?_) | ((with_reducible apply WG.tup); · rfl) | (with_reducible refine WGs.cons ?_) | (with_reducible refine WGs.nil ?_) | ((with_reducible apply WG.sub); · rfl)
  | (with_reducible refine SZ.mk (by first | assumption | (exact Nat.le_of_ble_eq_true rfl) | omega | exact isCls_ob) ?_)
  | ((with_reducible apply OO.mk); · rfl) | ((with_reducible apply OL.mk); · rfl) | ((with_reducible apply OD.mk); · rfl) | (with_reducible refine OW.mk ?_) | (with_reducible refine DC.mk ?_) | (with_reducible refine NT.mk ?_) | (with_reducible refine SS.mk ?_)
  | (with_reducible refine br_off ?_) | (with_reducible refine br_att ?_) | (with_reducible refine br_ntf ?_) | (with_reducible refine br_ntnt ?_) | (with_reducible refine br_nt ?_) | (with_reducible refine br_t ?_) | (with_reducible refine br_f ?_) | (with_reducible refine br_nf ?_)
  | (with_reducible refine PM.p10 ?_) | (with_reducible refine PM.p210 ?_) | (with_reducible refine PM.p0 ?_) | (with_reducible refine PM.p01 ?_) | (with_reducible refine PM.p201 ?_) | (with_reducible refine PM.p120 ?_) | (with_reducible refine PM.p102 ?_) | (with_reducible refine PM.p021 ?_) | (with_reducible refine PM.p012 ?_)
  | (with_reducible refine SQO.l ?_) | (with_reducible refine SQO.t ?_) | (with_reducible refine ISI.mk ?_)
  | (with_reducible refine WO.none ?_) | (with_reducible refine WO.some ?_) | (with_reducible refine WR.rel ?_) | (with_reducible refine WR.own ?_) | (with_reducible refine WR.enumU ?_) | (with_reducible refine EN.l ?_) | (with_reducible refine EN.t ?_) | (with_reducible refine WR.pl ?_)
  | (with_reducible refine RTn.val ?_) | (with_reducible refine RTn.own ?_) | ((with_reducible apply RTn.v); · rfl) | ((with_reducible apply RTn.o); · rfl)
  | (with_reducible refine PP.rt ?_) | (with_reducible refine PP.nx ?_) | ((with_reducible apply PI.rt); · rfl) | ((with_reducible apply PI.nx); · rfl)
  | (with_reducible refine LP.nx ?_) | (with_reducible refine LP.ct ?_) | (with_reducible refine LP.bk ?_) | (with_reducible refine LP.rt ?_) | (with_reducible refine LD.rt ?_)
  | ((with_reducible refine Wk.id ?_); (try dsimp only [setA, maskA, unmaskA, nthA, List.cons_append, List.nil_append]); (first | (with_reducible refine Wk.same ?_) | (with_reducible refine Wk.u ?_) | (with_reducible refine Wk.va rfl ?_) | (with_reducible refine Wk.oa rfl ?_) | (with_reducible refine Wk.vn ?_) | (with_reducible exact Wk.nil) | ((with_reducible refine Wk.o ?_ ?_); rotate_left) | ((with_reducible refine Wk.v ?_ ?_); rotate_left) | ((with_reducible refine Wk.oa ?_ ?_); rotate_left) | ((with_reducible refine Wk.va ?_ ?_); rotate_left))))
theorem ru_all : RuleOk "all" := ⟨eqO_str (by decide +kernel) (by decide +kernel), eqO_str (by decide +kernel) (by decide +kernel)⟩
theorem ru_strict : RuleOk "strict" := ⟨eqO_str (by decide +kernel) (by decide +kernel), eqO_str (by decide +kernel) (by decide +kernel)⟩
theorem known_ok {p : Pn} (o : OkP p) {d : D} {c : Str} (fo : Form d p) (hc : c ∈ p.labels) : m_known [d, .str c] = some (.own (.lst ((raisedOf p (knownOf p.cm c)).map D.str))) := by
  have pl := planP_ok o fo
  have kn := planKnown_ok o hc
  have lk : m_Plan_look_commits [planO p, .lst [.str c]] = some (.val .non) := (look_ok (l := [c]) (by simpa using hc)).1
  refine runP_ws (by simp) ?_
  unfold b_known; dsimp only [startA]
  repeat trivial
theorem goesAlong_ok {p : Pn} (o : OkP p) {d h : D} {cs : List Str} (fo : Form d p) (hh : m_tupled 6 [h] = some (.val (.tup (cs.map D.str)))) (hc : ∀ c ∈ cs, c ∈ p.labels) (hl : cs.length ≤ 900) (al : Along p cs) : m_goes_along [d, h] = some (.val (.bl true)) := by
  have pl := planP_ok o fo
  have lk := (look_ok (l := cs) hc).2
  have ct : cutO (some 1) none (.tup (cs.map D.str)) = some (.val (.tup (cs.tail.map D.str))) := by
    rw [e_cutO_2, cut_tail, allP_strs]; rfl
  have pr : ∀ e ∈ cs.zip cs.tail, e.1 ∈ p.labels ∧ e.2 ∈ p.labels ∧ toR p e.1 e.2 := fun e he => by
    obtain ⟨i, hi⟩ := List.getElem?_of_mem he
    rw [List.getElem?_zip_eq_some, List.getElem?_tail] at hi
    obtain ⟨h1, h2⟩ := hi
    refine ⟨hc _ (List.mem_of_getElem? h1), hc _ (List.mem_of_getElem? h2), ?_⟩
    obtain ⟨hi1, e1⟩ := List.getElem?_eq_some_iff.mp h1
    obtain ⟨hi2, e2⟩ := List.getElem?_eq_some_iff.mp h2
    have := List.pairwise_iff_getElem.mp al i (i + 1) hi1 hi2 (by omega)
    rw [e1, e2] at this
    exact this
  have gl := labels_gs o
  refine runP_ws (by simp) ?_
  unfold b_goes_along; dsimp only [startA]
  repeat trivial
  refine WE.map [.v d, .v h, .v (planO p), .v (.tup (cs.map D.str)), .n, .n] (cs.zip cs.tail) (fun e => D.tup [.str e.1, .str e.2]) (fun _ => .bl true) ?_ (by simp; omega) fun e he => ?_
  · refine WR.zipT ?_
    repeat trivial
    refine ⟨_, _, rfl, anyP_strs cs, ?_⟩
    refine SRC.mk (zip_strs cs cs.tail) ?_ ?_
    · repeat trivial
    · repeat trivial
      simp
  · obtain ⟨h1, h2, h3⟩ := pr e he
    have g1 := gl _ h1
    have g2 := gl _ h2
    repeat trivial
    refine ⟨fun _ => ?_, fun hn => ?_⟩
    · repeat trivial
    · have bh := behind_ok o (a := e.2) (b := e.1) h2
      rw [decide_eq_true (h3.resolve_left (by simpa using hn))] at bh
      repeat trivial
theorem lawBegins_ok {a t : List Str} (ha : ∀ x ∈ a, gs x) : m__law_begins [.tup (a.map D.str), .tup ((a ++ t).map D.str)] = some (.val (.bl true)) := by
  have ct : cutO none (some ((a.map D.str).length : Int)) (.tup ((a ++ t).map D.str)) = some (.val (.tup (a.map D.str))) := by
    rw [e_cutO_2, cut_to, List.length_map, List.map_append, List.take_append_of_le_length (by simp), List.take_of_length_le (by simp), allP_strs]; rfl
  have eq := eqT_strs ha ha
  rw [decide_eq_true rfl] at eq
  refine runP_ws (by simp) ?_
  unfold b__law_begins; dsimp only [startA]
  repeat trivial
theorem lawEvery_ok {p : Pn} (o : OkP p) {cs : List Str} (hc : ∀ c ∈ cs, c ∈ p.labels) (hl : cs.length ≤ 400) : m__law_every [planD p, .tup (cs.map D.str)] = some (.own (.lst ((sortS (rowA p cs)).map D.str))) := by
  have len : ∀ l : List Str, (∀ c ∈ l, c ∈ p.labels) → (l.flatMap fun c => raisedOf p (knownOf p.cm c)).length ≤ 9 * l.length := fun l => by
    induction l with
    | nil => intro _; simp
    | cons a l ih =>
      intro h
      have := ih fun c hc => h c (List.mem_cons_of_mem _ hc)
      have k := (known_gs o (h a (by simp))).2
      rw [List.flatMap_cons, List.length_append, List.length_cons]
      omega
  rw [← sort_every o hc]
  refine runP_ws (by simp) ?_
  unfold b__law_every; dsimp only [startA]
  repeat trivial
  refine WS.forT cs D.str (fun q A => A = [.v (planD p), .v (.tup (cs.map D.str)), .o (.lst ((q.flatMap fun c => raisedOf p (knownOf p.cm c)).map D.str)), .u]) ?_ ?_ ?_
  · repeat trivial
    refine ⟨rfl, _, ?_, rfl⟩
    repeat trivial
  · rintro q c post _ e rfl
    have hcl : c ∈ p.labels := hc c (by rw [e]; simp)
    have kn := known_ok o (form_d o) hcl
    have kl := (known_gs o hcl).2
    have l1 := len q fun d hd => hc d (by rw [e]; simp [hd])
    have l2 : q.length ≤ 400 := by rw [e] at hl; simp at hl; omega
    repeat trivial
    refine ⟨_, ?_, rfl⟩
    rw [List.flatMap_append, List.map_append]
    simp only [List.flatMap_cons, List.flatMap_nil, List.append_nil]
    repeat trivial
  · rintro _ rfl
    have l1 := len cs hc
    repeat trivial
    refine CL.sortSet (by omega) ?_
    repeat trivial
end Bl
namespace Bl
open PySem PySem.Spec PyProof.Rows L2 Evl
local macro_rules | `(tactic| trivial) => `(tactic| first
  | ((with_reducible refine CL.id ?_); first
      | (with_reducible refine CL.mk (by assumption) ?_)
      | (with_reducible refine CL.addI ?_) | (with_reducible refine CL.sub ?_) | (with_reducible refine CL.ltI ?_) | (with_reducible refine CL.ltS ?_)
      | (with_reducible refine CL.cmp ?_) | (with_reducible refine CL.eqI ?_) | (with_reducible refine CL.eqB ?_) | (with_reducible refine CL.lenL ?_) | (with_reducible refine CL.lenT ?_)
      | (with_reducible refine CL.atL (by assumption) ?_) | (with_reducible refine CL.atT (by assumption) ?_)
      | (with_reducible refine CL.atL (at_head _ _) ?_) | (with_reducible refine CL.atT (at_head _ _) ?_)
      | ((with_reducible apply CL.atL); · rfl) | ((with_reducible apply CL.atT); · rfl)
      | (with_reducible refine CL.getS (by assumption) ?_) | (with_reducible refine CL.inD ?_) | (with_reducible refine CL.ninD ?_)
      | (with_reducible refine CL.isN ?_) | (with_reducible refine CL.isntN ?_) | (with_reducible refine CL.intI ?_) | (with_reducible refine CL.intB ?_)
      | (with_reducible refine CL.listL ?_) | (with_reducible refine CL.listT ?_) | (with_reducible refine CL.tupL ?_) | (with_reducible refine CL.tupT ?_)
      | (with_reducible refine CL.repB (by exact Nat.le_of_ble_eq_true rfl) ?_) | (with_reducible refine CL.addL (by first | assumption | (simp only [List.length_append, List.length_map, List.length_cons, List.length_nil]; omega)) ?_)
      | (with_reducible refine CL.all ?_) | ((with_reducible apply CL.fld); · rfl) | (with_reducible refine CL.lstD ?_)
      | (with_reducible refine CL.cutL ?_) | (with_reducible refine CL.cutT (by assumption) ?_) | (with_reducible refine CL.keyS ?_) | (with_reducible refine CL.keyI ?_)
      | (with_reducible refine CL.eqS (by assumption) (by assumption) ?_) | (with_reducible refine CL.neS (by assumption) (by assumption) ?_) | (with_reducible refine CL.neg ?_) | (with_reducible refine CL.neBB ?_) | (with_reducible refine CL.neB ?_) | (with_reducible refine CL.eqBB ?_)
      | (with_reducible refine CL.mk (inU_strs _ _).1 ?_) | (with_reducible refine CL.mk (inU_strs _ _).2.1 ?_) | (with_reducible refine CL.mk (inU_strs _ _).2.2.1 ?_) | (with_reducible refine CL.mk (inU_strs _ _).2.2.2 ?_))
  | ((with_reducible refine WE.id ?_); first
      | ((with_reducible apply WE.vv); · rfl) | ((with_reducible apply WE.vo); · rfl) | ((with_reducible apply WE.va); · rfl)
      | (with_reducible refine WE.c ?_) | (with_reducible refine WE.op ?_) | (with_reducible refine WE.un ?_) | (with_reducible refine WE.call ?_)
      | (with_reducible refine WE.meth ?_) | ((with_reducible apply WE.callI); · rfl) | (with_reducible refine WE.tup ?_) | (with_reducible refine WE.lst ?_)
      | (with_reducible refine WE.slice ?_) | (with_reducible refine WE.callP ?_) | (with_reducible refine WE.make ?_) | (with_reducible refine WE.ite ?_)
      | ((with_reducible apply WE.app); · rfl) | (with_reducible refine WE.andV ?_) | (with_reducible refine WE.orV ?_) | (with_reducible refine WE.notV ?_)
      | (with_reducible refine WE.callT ?_) | ((with_reducible apply WE.ins); · rfl) | ((with_reducible apply WE.popAt); · rfl) | ((with_reducible apply WE.rem); · rfl)
      | ((with_reducible apply WE.upd); · rfl) | (with_reducible refine WE.newD ?_) | (with_reducible refine WE.chain ?_))
  | (with_reducible refine RL.val ?_) | (with_reducible refine RL.own ?_) | ((with_reducible apply RL.v); · rfl) | ((with_reducible apply RL.o); · rfl) | ((with_reducible apply RL.a); · rfl)
  | (with_reducible refine RD.val ?_) | (with_reducible refine RD.own ?_) | ((with_reducible apply RD.v); · rfl) | ((with_reducible apply RD.o); · rfl) | ((with_reducible apply RD.a); · rfl)
  | (with_reducible refine WEs.cons ?_) | (with_reducible refine WEs.nil ?_)
  | (with_reducible refine WT.b ?_) | (with_reducible refine ISB.mk ?_) | (with_reducible refine WT.not ?_) | ((with_reducible apply WT.and2); (· repeat trivial); (· intro _; repeat trivial)) | ((with_reducible apply WT.or2); (· repeat trivial); (· intro _; repeat trivial)) | (with_reducible refine WT.and ?_) | (with_reducible refine WT.or ?_) | (with_reducible refine EW.mk ?_)
  | ((with_reducible apply SRC.mk); (· first | rfl | (exact enum_zip _ _ _) | assumption); (· repeat trivial))
  | ((with_reducible apply LC1.mk); (· rfl); (· intro _; repeat trivial); (· intro _; repeat trivial)) | ((with_reducible refine EK.mk ?_ ?_); · rfl) | (with_reducible refine WT.yes ?_)
  | ((with_reducible refine SQ.nx ?_); try dsimp only [setA, maskA, unmaskA, nthA, List.cons_append, List.nil_append])
  | (with_reducible refine SQ.rt ?_) | (with_reducible refine SQ.bk ?_) | (with_reducible refine SQ.ct ?_)
  | ((with_reducible refine WS.id ?_); first
      | (with_reducible refine WS.seq ?_) | (with_reducible refine WS.set ?_) | (with_reducible refine WS.expr ?_) | (with_reducible refine WS.ret' ?_) | (with_reducible refine WS.ite ?_) | (with_reducible refine WS.asg ?_)
      | (with_reducible refine WS.par ?_) | (with_reducible refine WS.parN ?_) | (with_reducible refine WS.par3 ?_) | (with_reducible refine WS.next ?_) | (with_reducible refine WS.retN ?_) | (with_reducible refine WS.break_ ?_) | (with_reducible refine WS.cont ?_))
  | (with_reducible refine ST.val ?_) | (with_reducible refine ST.own ?_) | (with_reducible refine ST.pl ?_)
  | (with_reducible refine FX.val ?_) | (with_reducible refine FX.own ?_) | (with_reducible refine FX.pl ?_)
  | (with_reducible refine STn.nil ?_) | (with_reducible refine STn.cons ?_) | (with_reducible refine WEo.nil ?_) | (with_reducible refine WEo.cons ?_)
  | (with_reducible refine WG.name ?_) | ((with_reducible apply WG.tup); · rfl) | (with_reducible refine WGs.cons ?_) | (with_reducible refine WGs.nil ?_) | ((with_reducible apply WG.sub); · rfl)
  | (with_reducible refine SZ.mk (by first | assumption | (exact Nat.le_of_ble_eq_true rfl) | omega | exact isCls_ob) ?_)
  | ((with_reducible apply OO.mk); · rfl) | ((with_reducible apply OL.mk); · rfl) | ((with_reducible apply OD.mk); · rfl) | (with_reducible refine OW.mk ?_) | (with_reducible refine DC.mk ?_) | (with_reducible refine NT.mk ?_) | (with_reducible refine SS.mk ?_)
  | (with_reducible refine br_off ?_) | (with_reducible refine br_att ?_) | (with_reducible refine br_ntf ?_) | (with_reducible refine br_ntnt ?_) | (with_reducible refine br_nt ?_) | (with_reducible refine br_t ?_) | (with_reducible refine br_f ?_) | (with_reducible refine br_nf ?_)
  | (with_reducible refine PM.p10 ?_) | (with_reducible refine PM.p210 ?_) | (with_reducible refine PM.p0 ?_) | (with_reducible refine PM.p01 ?_) | (with_reducible refine PM.p201 ?_) | (with_reducible refine PM.p120 ?_) | (with_reducible refine PM.p102 ?_) | (with_reducible refine PM.p021 ?_) | (with_reducible refine PM.p012 ?_)
  | (with_reducible refine SQO.l ?_) | (with_reducible refine SQO.t ?_) | (with_reducible refine ISI.mk ?_)
  | (with_reducible refine WO.none ?_) | (with_reducible refine WO.some ?_) | (with_reducible refine WR.rel ?_) | (with_reducible refine WR.own ?_) | (with_reducible refine WR.enumU ?_) | (with_reducible refine EN.l ?_) | (with_reducible refine EN.t ?_) | (with_reducible refine WR.pl ?_)
  | (with_reducible refine RTn.val ?_) | (with_reducible refine RTn.own ?_) | ((with_reducible apply RTn.v); · rfl) | ((with_reducible apply RTn.o); · rfl)
  | (with_reducible refine PP.rt ?_) | (with_reducible refine PP.nx ?_) | ((with_reducible apply PI.rt); · rfl) | ((with_reducible apply PI.nx); · rfl)
  | (with_reducible refine LP.nx ?_) | (with_reducible refine LP.ct ?_) | (with_reducible refine LP.bk ?_) | (with_reducible refine LP.rt ?_) | (with_reducible refine LD.rt ?_)
  | ((with_reducible refine Wk.id ?_); (try dsimp only [setA, maskA, unmaskA, nthA, List.cons_append, List.nil_append]); (first | (with_reducible refine Wk.same ?_) | (with_reducible refine Wk.u ?_) | (with_reducible refine Wk.va rfl ?_) | (with_reducible refine Wk.oa rfl ?_) | (with_reducible refine Wk.vn ?_) | (with_reducible exact Wk.nil) | ((with_reducible refine Wk.o ?_ ?_); rotate_left) | ((with_reducible refine Wk.v ?_ ?_); rotate_left) | ((with_reducible refine Wk.oa ?_ ?_); rotate_left) | ((with_reducible refine Wk.va ?_ ?_); rotate_left))))
theorem dataLt_is (a b : Int) (x y : Str) : PySem.W.dataLt (.tuple [.int a, .str x]) (.tuple [.int b, .str y]) = (decide (a < b) || (decide (a = b) && ltT x y)) := by
  rw [PySem.W.dataLt_pair (by simp [PySem.W.alike]) (by simp [PySem.W.alike]), PySem.W.dataLt_int, PySem.W.dataLt_str]
  simp only [PyData.eqv, beq_iff_eq]
  unfold ltT
  by_cases h1 : a = b <;> by_cases h2 : x = y <;> simp [h1, h2]
/-- a row that rises: no neighbours are turned about -/
theorem rise_pair {p : Pn} (o : OkP p) {m i : Str} (h : low p m i = true) : (decide ((sz p i).1 * (sz p m).2 < (sz p m).1 * (sz p i).2) || (decide ((sz p i).1 * (sz p m).2 = (sz p m).1 * (sz p i).2) && ltT i m)) = false := by
  unfold low lowF at h
  rw [Bool.or_eq_true, Bool.and_eq_true, decide_eq_true_eq] at h
  rcases h with h | ⟨h1, h2⟩
  · unfold lessF at h
    have h := of_decide_eq_true h
    have n1 : ¬ (sz p i).1 * (sz p m).2 < (sz p m).1 * (sz p i).2 := by omega
    have n2 : ¬ (sz p i).1 * (sz p m).2 = (sz p m).1 * (sz p i).2 := by omega
    simp [n1, n2]
  · have n2 : ltT i m = false := by
      cases q : ltT i m with
      | false => rfl
      | true => exact (ltT_ord.asym _ _ h2 q).elim
    rw [h1, n2]
    simp
theorem ltDt_ok {a b : Int} {x y : Str} : ltDt (.tup [.int a, .str x]) (.tup [.int b, .str y]) = some (.val (.bl (decide (a < b) || (decide (a = b) && ltT x y)))) := by
  rw [← dataLt_is]
  unfold ltDt
  simp [toPy, toPys, PySem.W.alike, PySem.W.alikeAll, isNonP, PyData.depth, PyData.depthAll]
theorem toolsRight_ok {p : Pn} (o : OkP p) {cs : List Str} (hc : ∀ c ∈ cs, c ∈ p.labels) (hl : cs.length ≤ 400) : m__law_tools_right [planD p, .tup (cs.map D.str)] = some (.val (.bl true)) := by
  have tt := tupled_strs cs (by omega) 4
  have fd := form_d o
  have ra : m_row [planD p, .str "all", .tup (cs.map D.str)] = some (.val (.tup ((rowA p cs).map D.str))) := row_ok o ru_all fd tt.2 hc (by omega)
  have rl : m_row [planD p, .str "last", .tup (cs.map D.str)] = some (.val (.tup ((ranL p cs).map D.str))) := row_ok o ru_last fd tt.2 hc (by omega)
  have rs : m_row [planD p, .str "strict", .tup (cs.map D.str)] = some (.val (.tup ((rowT p cs).map D.str))) := row_ok o ru_strict fd tt.2 hc (by omega)
  have ms := missed_ok o fd tt.2 hc (by omega)
  have kA := rows_sub o (rule := "all") hc
  have kL := rows_sub o (rule := "last") hc
  have kT := rows_sub o (rule := "strict") hc
  have gA : ∀ x ∈ rowA p cs, gs x := fun x hx => names_gs o x (kA.sub x hx)
  have gL : ∀ x ∈ ranL p cs, gs x := fun x hx => names_gs o x (kL.sub x hx)
  have gT : ∀ x ∈ rowT p cs, gs x := fun x hx => names_gs o x (kT.sub x hx)
  have gG : ∀ x ∈ goneL p cs, gs x := fun x hx => names_gs o x (List.mem_filter.mp hx).1
  have lA : (rowA p cs).length ≤ 9 := kA.len o
  have lL : (ranL p cs).length ≤ 9 := kL.len o
  have lG : (goneL p cs).length ≤ 9 := by
    have := o.sl
    refine Nat.le_trans (List.length_filter_le _ _) ?_
    rw [show p.names.length = p.st.length from List.length_map ..]; exact this
  have lM : (missL p cs).length ≤ 9 := by have := congrArg List.length (gone_miss p cs); rw [List.length_map] at this; omega
  have gS : ∀ x ∈ sortS (rowA p cs), gs x := fun x hx => gA x (mem_sortS.mp hx)
  have so1 := sort_tup (l := rowA p cs) (by omega)
  have so2 : sortU (.lst ((ranL p cs).map D.str ++ (goneL p cs).map D.str)) = some (.own (.lst ((sortS (rowA p cs)).map D.str))) := by
    rw [← List.map_append, sort_lst (by simp; omega), sort_gone o hc]
  have ev := lawEvery_ok o hc hl
  have ne1 := neO_self (py_lst (f := D.str) (g := PyData.str) (n := 0) (sortS (rowA p cs)) fun x hx => py_str (gS x hx)) (by decide)
  have ne2 := neO_self (py_tup (f := D.str) (g := PyData.str) (n := 0) (ranL p cs) fun x hx => py_str (gL x hx)) (by decide)
  have p0 : ixSeq (planD p) (.int 0) = some (.val (.tup (p.st.map stepD))) := rfl
  have sd : dictT (.tup (p.st.map stepD)) = some (.own (.dic (numD p))) := stepsDict o
  have gone : ((missL p cs).map fun q => D.str q.1) = (goneL p cs).map D.str := by rw [← gone_miss, List.map_map]; rfl
  refine runP_ws (by simp) ?_
  unfold b__law_tools_right; dsimp only [startA]
  repeat trivial
  refine WE.map [.v (planD p), .v (.tup (cs.map D.str)), .v (.tup ((rowA p cs).map D.str)), .v (.tup ((ranL p cs).map D.str)), .n, .n, .n, .n, .n, .n, .n, .n, .n] (missL p cs) (fun q => D.tup [.str q.1, .int (q.2.1 : Nat), .int (q.2.2.1 : Nat), .str q.2.2.2]) (fun q => .str q.1) ?_ (by omega) fun q hq => ?_
  rotate_left
  · repeat trivial
  rw [gone]
  repeat trivial
  refine WE.lc [.v (planD p), .v (.tup (cs.map D.str)), .v (.tup ((rowA p cs).map D.str)), .v (.tup ((ranL p cs).map D.str)), .v (.tup ((rowT p cs).map D.str)), .v (.lst ((goneL p cs).map D.str)), .n, .n, .n, .n, .n, .n, .n] (rowA p cs) D.str (fun x => !decide (x ∈ goneL p cs)) D.str ?_ (by omega) fun x hx => ?_
  rotate_left
  · repeat trivial
  rw [← last_whole o hc]
  repeat trivial
  have ct : cutO (some 1) none (.tup ((ranL p cs).map D.str)) = some (.val (.tup ((ranL p cs).tail.map D.str))) := by
    rw [e_cutO_2, cut_tail, allP_strs]; rfl
  have rise := (two o cs hc).rise
  refine WS.forT ((ranL p cs).zip (ranL p cs).tail) (fun e => D.tup [.str e.1, .str e.2]) (fun _ A => A = [.v (planD p), .v (.tup (cs.map D.str)), .v (.tup ((rowA p cs).map D.str)), .v (.tup ((ranL p cs).map D.str)), .v (.tup ((rowT p cs).map D.str)), .v (.lst ((goneL p cs).map D.str)), .o (.dic (numD p)), .u, .u, .n, .n, .n, .n]) ?_ ?_ ?_
  · refine WR.zipT ?_
    repeat trivial
    refine ⟨_, _, rfl, anyP_strs _, zip_strs _ _, _, ?_, rfl⟩
    repeat trivial
  · rintro pre e post _ eq rfl
    have he : e ∈ (ranL p cs).zip (ranL p cs).tail := by rw [eq]; simp
    obtain ⟨i, hi⟩ := List.getElem?_of_mem he
    rw [List.getElem?_zip_eq_some, List.getElem?_tail] at hi
    obtain ⟨h1, h2⟩ := hi
    have n1 := kL.sub _ (List.mem_of_getElem? h1)
    have n2 := kL.sub _ (List.mem_of_getElem? h2)
    have lw : low p e.1 e.2 = true := by
      obtain ⟨hi1, e1⟩ := List.getElem?_eq_some_iff.mp h1
      obtain ⟨hi2, e2⟩ := List.getElem?_eq_some_iff.mp h2
      have := List.pairwise_iff_getElem.mp rise i (i + 1) hi1 hi2 (by omega)
      rw [e1, e2] at this
      exact this
    have g1 := sz_get n1
    have g2 := sz_get n2
    have m1 : mulU (.int (sz p e.2).1) (.int (sz p e.1).2) = some (.val (.int ((sz p e.2).1 * (sz p e.1).2))) := by
      rw [mulU_i, mulI_small (sz_ok o e.1).pos]; rfl
    have m2 : mulU (.int (sz p e.1).1) (.int (sz p e.2).2) = some (.val (.int ((sz p e.1).1 * (sz p e.2).2))) := by
      rw [mulU_i, mulI_small (sz_ok o e.2).pos]; rfl
    have lt := ltDt_ok (a := (sz p e.2).1 * (sz p e.1).2) (b := (sz p e.1).1 * (sz p e.2).2) (x := e.2) (y := e.1)
    rw [rise_pair o lw] at lt
    repeat trivial
    refine ⟨_, ?_, rfl⟩
    repeat trivial
  rintro _ rfl
  have rf := refused_ok o ru_strict fd tt.2 hc (by omega)
  have rf : m_refused [planD p, .tup (cs.map D.str)] = some (.own (.lst ((offS p cs).map D.int))) := rf
  have oe : (offS p cs).isEmpty = (goneL p cs).isEmpty := by
    rw [Bool.eq_iff_iff, List.isEmpty_iff, List.isEmpty_iff]; exact off_nil o hc
  have e1 : eqO (.lst ((offS p cs).map D.int)) (.lst []) = some (.val (.bl (goneL p cs).isEmpty)) := by
    rw [← oe]; exact eqO_nil (offS p cs) (g := PyData.int) (n := 0) (fun x _ => py_int x) (by decide)
  have e1' := ne_of_eq e1
  have e2 := eqL_nil gG
  have cl : m_is_clean [planD p, .tup (cs.map D.str)] = some (.val (.bl (goneL p cs).isEmpty)) := by
    rw [isClean_ok o fd tt.2 hc (by omega), ← gone_miss, List.isEmpty_map]
  have e3 : eqO (.tup ((rowA p cs).map D.str)) (.tup ((ranL p cs).map D.str)) = some (.val (.bl (goneL p cs).isEmpty)) := by
    rw [eqT_strs gA gL]
    congr 3
    rw [Bool.eq_iff_iff, decide_eq_true_eq, List.isEmpty_iff, gone_nil o hc]
    exact eq_comm
  have e4 := ne_of_eq (eqT_strs gT gA)
  have hpq : ((goneL p cs).isEmpty && !decide (rowT p cs = rowA p cs)) = false := by
    rcases strict_way o cs hc with ⟨h1, h2, h3⟩ | ⟨pre, d, post, e, g1, g2, g3, ⟨t, g4⟩, g5, x, hx, hn⟩
    · simp [h2]
    · have : (goneL p cs).isEmpty = false := by rw [← oe, g4]; rfl
      simp [this]
  repeat trivial
  rw [hpq]
  repeat trivial
  refine ⟨fun hb => ?_, fun hb => ?_⟩
  · rcases strict_way o cs hc with ⟨h1, h2, h3⟩ | ⟨pre, c, post, e, g1, g2, g3, ⟨t, g4⟩, g5, x, hx, hn⟩
    · rw [← oe, h1] at hb; cases hb
    · have hp : ∀ d ∈ pre, d ∈ p.labels := fun d hd => hc d (by rw [e]; simp [hd])
      have hpc : ∀ d ∈ pre ++ [c], d ∈ p.labels := fun d hd => hc d (by rw [e, show pre ++ c :: post = (pre ++ [c]) ++ post by simp]; exact List.mem_append_left _ hd)
      have hpl : pre.length ≤ 400 := by rw [e] at hl; simp at hl; omega
      have tp := tupled_strs pre (by omega) 4
      have tpc := tupled_strs (pre ++ [c]) (by simp; omega) 4
      have r1 : m_row [planD p, .str "strict", .tup (pre.map D.str)] = some (.val (.tup ((rowA p pre).map D.str))) := by rw [← g2]; exact row_ok o ru_strict fd tp.2 hp (by omega)
      have r2 : m_row [planD p, .str "last", .tup (pre.map D.str)] = some (.val (.tup ((rowA p pre).map D.str))) := by rw [← g3]; exact row_ok o ru_last fd tp.2 hp (by omega)
      have r3 : m_row [planD p, .str "all", .tup (pre.map D.str)] = some (.val (.tup ((rowA p pre).map D.str))) := row_ok o ru_all fd tp.2 hp (by omega)
      have r4 : m_row [planD p, .str "strict", .tup ((pre ++ [c]).map D.str)] = some (.val (.tup ((rowA p pre).map D.str))) := by rw [← g2, ← g5]; exact row_ok o ru_strict fd tpc.2 hpc (by simp; omega)
      have gP : ∀ x ∈ rowA p pre, gs x := fun x hx => names_gs o x ((rows_sub o (rule := "all") hp).sub x hx)
      obtain ⟨_, ⟨t2, m2⟩, ⟨t3, m3⟩, _, _⟩ := rowA_more o pre (c :: post) (by rw [← e]; exact hc)
      rw [← e] at m2 m3
      rw [g2] at m3
      rw [g3] at m2
      have b1 := lawBegins_ok (a := rowA p pre) (t := t3) gP
      have b2 := lawBegins_ok (a := rowA p pre) (t := t2) gP
      rw [← m3] at b1
      rw [← m2] at b2
      have c1 : cutO none (some (pre.length : Int)) (.tup (cs.map D.str)) = some (.val (.tup (pre.map D.str))) := by
        rw [e_cutO_2, cut_to, e, List.map_append, List.take_append_of_le_length (by simp), List.take_of_length_le (by simp), allP_strs]; rfl
      have c2 : cutO none (some ((pre.length : Int) + 1)) (.tup (cs.map D.str)) = some (.val (.tup ((pre ++ [c]).map D.str))) := by
        rw [e_cutO_2, show ((pre.length : Int) + 1) = ((pre.length + 1 : Nat) : Int) by omega, cut_to, e, show pre ++ c :: post = (pre ++ [c]) ++ post by simp, List.map_append, List.take_append_of_le_length (by simp), List.take_of_length_le (by simp), allP_strs]; rfl
      have gp0 : goneL p pre = [] := (gone_nil o hp).mpr g3
      have mp0 : missL p pre = [] := by
        have := congrArg List.length (gone_miss p pre)
        rw [gp0, List.length_map] at this
        exact List.length_eq_zero_iff.mp this
      have ms0 : m_missed [planD p, .tup (pre.map D.str)] = some (.own (.lst [])) := by
        have := missed_ok o fd tp.2 hp (by omega)
        rw [mp0] at this; exact this
      have ms1 := missed_ok o fd tpc.2 hpc (by simp; omega)
      have mne : (missL p (pre ++ [c])).isEmpty = false := by
        have : x ∈ goneL p (pre ++ [c]) := (mem_gone o hpc).mpr ⟨hx, hn⟩
        rw [← gone_miss] at this
        cases q : missL p (pre ++ [c]) with
        | nil => rw [q] at this; cases this
        | cons a l => rfl
      have ne0 : neO (.lst []) (.lst []) = some (.val (.bl false)) := neO_self (n := 1) (py_lst (α := Str) (f := D.str) (g := PyData.str) (n := 0) [] (by simp)) (by decide)
      have pyR := py_tup (f := D.str) (g := PyData.str) (n := 0) (rowA p pre) fun x hx => py_str (gP x hx)
      have rp : mulU (.lst [.tup ((rowA p pre).map D.str)]) (.int 3) = some (.own (.lst [.tup ((rowA p pre).map D.str), .tup ((rowA p pre).map D.str), .tup ((rowA p pre).map D.str)])) := by rw [mulU_l, if_pos ⟨by decide, by decide, by simp⟩]; rfl
      have n3 := neO_self (py_l3 pyR pyR pyR) (by decide)
      have n4 := neO_self pyR (by decide)
      have n5 : neO (.lst ((missL p (pre ++ [c])).map quadD)) (.lst []) = some (.val (.bl true)) := by
        have := neO_mt (missL p (pre ++ [c])) (f := quadD) (g := fun q => .tuple [.str q.1, .int (q.2.1 : Nat), .int (q.2.2.1 : Nat), .str q.2.2.2]) (n := 1) (fun q hq => py_quad (miss_names o hpc q hq).1 (miss_names o hpc q hq).2.1) (by decide)
        rw [mne] at this
        exact this
      rw [g4]
      show WS [_, _, _, _, _, _, _, _, _, .o (.lst (.int (pre.length : Int) :: t.map D.int)), _, _, _] _ _
      repeat trivial
      done
  · repeat trivial
end Bl
namespace Bl
open PySem PySem.Spec PyProof.Rows L2 Evl
local macro_rules | `(tactic| trivial) => `(tactic| first
  | ((with_reducible refine CL.id ?_); first
      | (with_reducible refine CL.mk (by assumption) ?_)
      | (with_reducible refine CL.addI ?_) | (with_reducible refine CL.sub ?_) | (with_reducible refine CL.ltI ?_) | (with_reducible refine CL.ltS ?_)
      | (with_reducible refine CL.cmp ?_) | (with_reducible refine CL.eqI ?_) | (with_reducible refine CL.eqB ?_) | (with_reducible refine CL.lenL ?_) | (with_reducible refine CL.lenT ?_)
      | (with_reducible refine CL.atL (by assumption) ?_) | (with_reducible refine CL.atT (by assumption) ?_)
      | (with_reducible refine CL.atL (at_head _ _) ?_) | (with_reducible refine CL.atT (at_head _ _) ?_)
      | ((with_reducible apply CL.atL); · rfl) | ((with_reducible apply CL.atT); · rfl)
      | (with_reducible refine CL.getS (by assumption) ?_) | (with_reducible refine CL.inD ?_) | (with_reducible refine CL.ninD ?_)
      | (with_reducible refine CL.isN ?_) | (with_reducible refine CL.isntN ?_) | (with_reducible refine CL.intI ?_) | (with_reducible refine CL.intB ?_)
      | (with_reducible refine CL.listL ?_) | (with_reducible refine CL.listT ?_) | (with_reducible refine CL.tupL ?_) | (with_reducible refine CL.tupT ?_)
      | (with_reducible refine CL.repB (by exact Nat.le_of_ble_eq_true rfl) ?_) | (with_reducible refine CL.addL (by first | assumption | (simp only [List.length_append, List.length_map, List.length_cons, List.length_nil]; omega)) ?_)
      | (with_reducible refine CL.all ?_) | ((with_reducible apply CL.fld); · rfl) | (with_reducible refine CL.lstD ?_)
      | (with_reducible refine CL.cutL ?_) | (with_reducible refine CL.cutT (by assumption) ?_) | (with_reducible refine CL.keyS ?_) | (with_reducible refine CL.keyI ?_)
      | (with_reducible refine CL.eqS (by assumption) (by assumption) ?_) | (with_reducible refine CL.neS (by assumption) (by assumption) ?_) | (with_reducible refine CL.neg ?_) | (with_reducible refine CL.neBB ?_) | (with_reducible refine CL.neB ?_) | (with_reducible refine CL.eqBB ?_)
      | (with_reducible refine CL.mk (inU_strs _ _).1 ?_) | (with_reducible refine CL.mk (inU_strs _ _).2.1 ?_) | (with_reducible refine CL.mk (inU_strs _ _).2.2.1 ?_) | (with_reducible refine CL.mk (inU_strs _ _).2.2.2 ?_))
  | ((with_reducible refine WE.id ?_); first
      | ((with_reducible apply WE.vv); · rfl) | ((with_reducible apply WE.vo); · rfl) | ((with_reducible apply WE.va); · rfl)
      | (with_reducible refine WE.c ?_) | (with_reducible refine WE.op ?_) | (with_reducible refine WE.un ?_) | (with_reducible refine WE.call ?_)
      | (with_reducible refine WE.meth ?_) | ((with_reducible apply WE.callI); · rfl) | (with_reducible refine WE.tup ?_) | (with_reducible refine WE.lst ?_)
      | (with_reducible refine WE.slice ?_) | (with_reducible refine WE.callP ?_) | (with_reducible refine WE.make ?_) | (with_reducible refine WE.ite ?_)
      | ((with_reducible apply WE.app); · rfl) | (with_reducible refine WE.andV ?_) | (with_reducible refine WE.orV ?_) | (with_reducible refine WE.notV ?_)
      | (with_reducible refine WE.callT ?_) | ((with_reducible apply WE.ins); · rfl) | ((with_reducible apply WE.popAt); · rfl) | ((with_reducible apply WE.rem); · rfl)
      | ((with_reducible apply WE.upd); · rfl) | (with_reducible refine WE.newD ?_) | (with_reducible refine WE.chain ?_))
  | (with_reducible refine RL.val ?_) | (with_reducible refine RL.own ?_) | ((with_reducible apply RL.v); · rfl) | ((with_reducible apply RL.o); · rfl) | ((with_reducible apply RL.a); · rfl)
  | (with_reducible refine RD.val ?_) | (with_reducible refine RD.own ?_) | ((with_reducible apply RD.v); · rfl) | ((with_reducible apply RD.o); · rfl) | ((with_reducible apply RD.a); · rfl)
  | (with_reducible refine WEs.cons ?_) | (with_reducible refine WEs.nil ?_)
  | (with_reducible refine WT.b ?_) | (with_reducible refine ISB.mk ?_) | (with_reducible refine WT.not ?_) | ((with_reducible apply WT.and2); (· repeat trivial); (· intro _; repeat trivial)) | ((with_reducible apply WT.or2); (· repeat trivial); (· intro _; repeat trivial)) | (with_reducible refine WT.and ?_) | (with_reducible refine WT.or ?_) | (with_reducible refine EW.mk ?_)
  | ((with_reducible apply SRC.mk); (· first | rfl | (exact enum_zip _ _ _) | assumption); (· repeat trivial))
  | ((with_reducible apply LC1.mk); (· rfl); (· intro _; repeat trivial); (· intro _; repeat trivial)) | ((with_reducible refine EK.mk ?_ ?_); · rfl) | (with_reducible refine WT.yes ?_)
  | ((with_reducible refine SQ.nx ?_); try dsimp only [setA, maskA, unmaskA, nthA, List.cons_append, List.nil_append])
  | (with_reducible refine SQ.rt ?_) | (with_reducible refine SQ.bk ?_) | (with_reducible refine SQ.ct ?_)
  | ((with_reducible refine WS.id ?_); first
      | (with_reducible refine WS.seq ?_) | (with_reducible refine WS.set ?_) | (with_reducible refine WS.expr ?_) | (with_reducible refine WS.ret' ?_) | (with_reducible refine WS.ite ?_) | (with_reducible refine WS.asg ?_)
      | (with_reducible refine WS.par ?_) | (with_reducible refine WS.parN ?_) | (with_reducible refine WS.par3 ?_) | (with_reducible refine WS.next ?_) | (with_reducible refine WS.retN ?_) | (with_reducible refine WS.break_ ?_) | (with_reducible refine WS.cont ?_))
  | (with_reducible refine ST.val ?_) | (with_reducible refine ST.own ?_) | (with_reducible refine ST.pl ?_)
  | (with_reducible refine FX.val ?_) | (with_reducible refine FX.own ?_) | (with_reducible refine FX.pl ?_)
  | (with_reducible refine STn.nil ?_) | (with_reducible refine STn.cons ?_) | (with_reducible refine WEo.nil ?_) | (with_reducible refine WEo.cons ?_)
  | (with_reducible refine WG.name ?_) | ((with_reducible apply WG.tup); · rfl) | (with_reducible refine WGs.cons ?_) | (with_reducible refine WGs.nil ?_) | ((with_reducible apply WG.sub); · rfl)
  | (with_reducible refine SZ.mk (by first | assumption | (exact Nat.le_of_ble_eq_true rfl) | omega | exact isCls_ob) ?_)
  | ((with_reducible apply OO.mk); · rfl) | ((with_reducible apply OL.mk); · rfl) | ((with_reducible apply OD.mk); · rfl) | (with_reducible refine OW.mk ?_) | (with_reducible refine DC.mk ?_) | (with_reducible refine NT.mk ?_) | (with_reducible refine SS.mk ?_)
  | (with_reducible refine br_off ?_) | (with_reducible refine br_att ?_) | (with_reducible refine br_ntf ?_) | (with_reducible refine br_ntnt ?_) | (with_reducible refine br_nt ?_) | (with_reducible refine br_t ?_) | (with_reducible refine br_f ?_) | (with_reducible refine br_nf ?_)
  | (with_reducible refine PM.p10 ?_) | (with_reducible refine PM.p210 ?_) | (with_reducible refine PM.p0 ?_) | (with_reducible refine PM.p01 ?_) | (with_reducible refine PM.p201 ?_) | (with_reducible refine PM.p120 ?_) | (with_reducible refine PM.p102 ?_) | (with_reducible refine PM.p021 ?_) | (with_reducible refine PM.p012 ?_)
  | (with_reducible refine SQO.l ?_) | (with_reducible refine SQO.t ?_) | (with_reducible refine ISI.mk ?_)
  | (with_reducible refine WO.none ?_) | (with_reducible refine WO.some ?_) | (with_reducible refine WR.rel ?_) | (with_reducible refine WR.own ?_) | (with_reducible refine WR.enumU ?_) | (with_reducible refine EN.l ?_) | (with_reducible refine EN.t ?_) | (with_reducible refine WR.pl ?_)
  | (with_reducible refine RTn.val ?_) | (with_reducible refine RTn.own ?_) | ((with_reducible apply RTn.v); · rfl) | ((with_reducible apply RTn.o); · rfl)
  | (with_reducible refine PP.rt ?_) | (with_reducible refine PP.nx ?_) | ((with_reducible apply PI.rt); · rfl) | ((with_reducible apply PI.nx); · rfl)
  | (with_reducible refine LP.nx ?_) | (with_reducible refine LP.ct ?_) | (with_reducible refine LP.bk ?_) | (with_reducible refine LP.rt ?_) | (with_reducible refine LD.rt ?_)
  | ((with_reducible refine Wk.id ?_); (try dsimp only [setA, maskA, unmaskA, nthA, List.cons_append, List.nil_append]); (first | (with_reducible refine Wk.same ?_) | (with_reducible refine Wk.u ?_) | (with_reducible refine Wk.va rfl ?_) | (with_reducible refine Wk.oa rfl ?_) | (with_reducible refine Wk.vn ?_) | (with_reducible exact Wk.nil) | ((with_reducible refine Wk.o ?_ ?_); rotate_left) | ((with_reducible refine Wk.v ?_ ?_); rotate_left) | ((with_reducible refine Wk.oa ?_ ?_); rotate_left) | ((with_reducible refine Wk.va ?_ ?_); rotate_left))))
theorem gone_map (p : Pn) (cs : List Str) : ((missL p cs).map fun q => D.str q.1) = (goneL p cs).map D.str := by rw [← gone_miss, List.map_map]; rfl
def RtP (k : Nat) (A : As) : Prop := ∃ (b : D) (M : Nat), A = [.o b, .u, .u, .u, .u, .u, .u, .u, .n] ∧ M ≤ 3000 * k ∧ Box M b
theorem right_ok {b : D} (h : Box 0 b) : ∃ b', m__law_right b [] = some (.val (.bl true), b') := by
  have := runI_ws (n := 8) (f := b__law_right) (b := b) (ds := []) (P := fun w _ => w = .val (.bl true)) (by simp) ?_
  · obtain ⟨w, b', e, rfl⟩ := this
    exact ⟨b', e⟩
  unfold b__law_right; dsimp only [startA]
  repeat trivial
  refine WS.forN 3 RtP ?_ ?_ ?_
  · refine WR.rng ?_
    repeat trivial
    refine ⟨3, rfl, by decide, rfl, _, ?_, b, 0, rfl, by decide, h⟩
    repeat trivial
  · rintro k _ hk ⟨b, M, rfl, hM, hb⟩
    obtain ⟨r1, b1, t1, l1, u1, hb1⟩ := take_ok hb (by omega) (n := 8) (by decide) (by decide)
    obtain ⟨r2, b2, t2, l2, u2, hb2⟩ := take_ok hb1 (by omega) (n := 7) (by decide) (by decide)
    obtain ⟨r3, b3, t3, l3, u3, hb3⟩ := take_ok hb2 (by omega) (n := 3) (by decide) (by decide)
    obtain ⟨p, b4, pl, hb4, o⟩ := plan_ok (n := 1 + r1) (k := 1 + r2) (th := 3) (sh := r3) hb3 (by omega) (by omega) (by omega) (by omega) (by omega)
    obtain ⟨r4, b5, t4, l4, u4, hb5⟩ := take_ok hb4 (by omega) (n := 6) (by decide) (by decide)
    obtain ⟨m, hm⟩ : ∃ m : Nat, 1 + r4 = (m : Int) := ⟨(1 + r4).toNat, by omega⟩
    obtain ⟨cs, b6, c1, hc, hl, hb6, al⟩ := lawCallsA o (m := m) (al := true) hb5 (by omega) (by omega)
    rw [← hm] at c1
    have al := al rfl
    have fd := form_d o
    have cm := canMiss_ok o fd
    have tt := tupled_strs cs (by omega) 4
    have tr := toolsRight_ok o hc (by omega)
    have ga := goesAlong_ok o fd tt.2 hc (by omega) al
    obtain ⟨r5, b7, t5, l5, u5, hb7⟩ := take_ok hb6 (by omega) (n := 6) (by decide) (by decide)
    obtain ⟨m2, rfl⟩ : ∃ m : Nat, r5 = (m : Int) := ⟨r5.toNat, by omega⟩
    obtain ⟨cs2, b8, c2, hc2, hl2, hb8, _⟩ := lawCallsA o (m := m2) (al := false) hb7 (by omega) (by omega)
    have tr2 := toolsRight_ok o hc2 (by omega)
    have ms := missed_ok o fd tt.2 hc (by omega)
    have lM := miss_len o cs
    obtain ⟨q, x, hqx⟩ : ∃ q x, cs = q ++ [x] := by
      have hne : cs ≠ [] := fun z => by rw [z] at hl; simp at hl; omega
      exact ⟨cs.dropLast, cs.getLast hne, (List.dropLast_concat_getLast hne).symm⟩
    have ql : q.length ≤ 10 := by have := congrArg List.length hqx; simp at this; omega
    have ct1 : cutO none (some (-1)) (.tup (cs.map D.str)) = some (.val (.tup (q.map D.str))) := by
      rw [e_cutO_2, hqx, List.map_append, List.map_cons, List.map_nil, cut_init, allP_strs]; rfl
    have ct2 : cutO (some (-1)) none (.tup (cs.map D.str)) = some (.val (.tup [.str x])) := by
      rw [e_cutO_2, hqx, List.map_append, List.map_cons, List.map_nil, cut_end]; rfl
    repeat trivial
    refine WE.map [.o b8, .v (.int (k : Nat)), .v (planD p), .v (.tup (cs.map D.str)), .v (.lst ((canL p).map D.str)), .u, .u, .u, .n] (missL p cs) (fun q => D.tup [.str q.1, .int (q.2.1 : Nat), .int (q.2.2.1 : Nat), .str q.2.2.2]) (fun q => .str q.1) ?_ (by omega) fun z hz => ?_
    rotate_left
    · repeat trivial
    rw [gone_map]
    repeat trivial
    refine WE.lcI q D.str (fun pre acc C => ∃ (b : D) (fs : List Str), C = [.o b, .v (.int (k : Nat)), .v (planD p), .v (.tup (cs.map D.str)), .v (.lst ((canL p).map D.str)), .o (.lst ((goneL p cs).map D.str)), .u, .u, .n] ∧ acc = fs.map D.str ∧ fs.Sublist pre ∧ Box (M + 1021 + pre.length) b) ?_ (by omega) ?_
    · repeat trivial
      refine ⟨rfl, ⟨_, ?_, b8, [], rfl, rfl, List.Sublist.refl _, hb8.mono (by simp; omega)⟩, ?_⟩
      · repeat trivial
      · rintro acc C ⟨b9, fs, rfl, rfl, sub, hb9⟩
        have sub2 : (fs ++ [x]).Sublist cs := by rw [hqx]; exact sub.append (List.Sublist.refl _)
        have fl : (fs ++ [x]).length ≤ 11 := by have := sub.length_le; simp; omega
        have hf : ∀ c ∈ fs ++ [x], c ∈ p.labels := fun c h => hc c (sub2.subset h)
        have ad : addU (.tup (fs.map D.str)) (.tup [.str x]) = some (.val (.tup ((fs ++ [x]).map D.str))) := by
          have e : (fs ++ [x]).map D.str = fs.map D.str ++ [.str x] := by simp
          have a0 := allP_strs (fs ++ [x])
          rw [e] at a0 ⊢
          rw [addU_t, if_pos ⟨by simp at fl ⊢; omega, a0⟩]
        have tf := tupled_strs (fs ++ [x]) (by omega) 4
        have mf := missed_ok o fd tf.2 hf (by omega)
        have lF := miss_len o (fs ++ [x])
        repeat trivial
        refine WE.map [.o b9, .v (.int (k : Nat)), .v (planD p), .v (.tup (cs.map D.str)), .v (.lst ((canL p).map D.str)), .o (.lst ((goneL p cs).map D.str)), .v (.tup ((fs ++ [x]).map D.str)), .u, .n] (missL p (fs ++ [x])) (fun q => D.tup [.str q.1, .int (q.2.1 : Nat), .int (q.2.2.1 : Nat), .str q.2.2.2]) (fun q => .str q.1) ?_ (by omega) fun z hz => ?_
        rotate_left
        · repeat trivial
        rw [gone_map]
        have f1 : (goneL p (fs ++ [x])).filter (fun y => !decide (y ∈ goneL p cs)) = [] := by
          rw [List.filter_eq_nil_iff]
          intro y hy
          have := gone_few o hc al sub2 hy
          simp [this]
        have f2 : (goneL p cs).filter (fun y => !decide (y ∈ canL p)) = [] := by
          rw [List.filter_eq_nil_iff]
          intro y hy
          have : y ∈ canL p := (mem_can o).mpr ⟨(List.mem_filter.mp hy).1, gone_can o hc al hy⟩
          simp [this]
        have g1 : (goneL p (fs ++ [x])).length ≤ 9 := by have := congrArg List.length (gone_miss p (fs ++ [x])); rw [List.length_map] at this; omega
        have g2 : (goneL p cs).length ≤ 9 := by have := congrArg List.length (gone_miss p cs); rw [List.length_map] at this; omega
        have ne0 : neO (.lst []) (.lst []) = some (.val (.bl false)) := neO_self (n := 1) (py_lst (α := Str) (f := D.str) (g := PyData.str) (n := 0) [] (by simp)) (by decide)
        have hx : x ∈ p.labels := hc x (by rw [hqx]; simp)
        have m1 : missL p [x] = [] := by
          have := congrArg List.length (gone_miss p [x])
          rw [gone_one o hx, List.length_map] at this
          exact List.length_eq_zero_iff.mp this
        have mx : m_missed [planD p, .tup [.str x]] = some (.own (.lst [])) := by
          have := missed_ok o fd (tupled_strs [x] (by simp) 4).2 (by simpa using hx) (by simp)
          rw [m1] at this; exact this
        repeat trivial
        refine WE.lc [.o b9, .v (.int (k : Nat)), .v (planD p), .v (.tup (cs.map D.str)), .v (.lst ((canL p).map D.str)), .o (.lst ((goneL p cs).map D.str)), .v (.tup ((fs ++ [x]).map D.str)), .v (.lst ((goneL p (fs ++ [x])).map D.str)), .n] (goneL p (fs ++ [x])) D.str (fun y => !decide (y ∈ goneL p cs)) D.str ?_ (by omega) fun y hy => ?_
        rotate_left
        · repeat trivial
        rw [f1, List.map_nil]
        repeat trivial
        refine WE.lc [.o b9, .v (.int (k : Nat)), .v (planD p), .v (.tup (cs.map D.str)), .v (.lst ((canL p).map D.str)), .v (.lst ((goneL p cs).map D.str)), .v (.tup ((fs ++ [x]).map D.str)), .v (.lst ((goneL p (fs ++ [x])).map D.str)), .n] (goneL p cs) D.str (fun y => !decide (y ∈ canL p)) D.str ?_ (by omega) fun y hy => ?_
        rotate_left
        · repeat trivial
        rw [f2, List.map_nil]
        repeat trivial
        refine ⟨_, ?_, b9, _, rfl, ?_, hb9⟩
        · repeat trivial
        · omega
    · rintro pre c post acc _ e ⟨b9, fs, rfl, rfl, sub, hb9⟩
      have pl : pre.length ≤ 10 := by rw [e] at ql; simp at ql; omega
      obtain ⟨r, b10, tk, lr, ur, hb10⟩ := take_ok hb9 (by omega) (n := 2) (by decide) (by decide)
      repeat trivial
      refine ⟨fun hr => ?_, fun hr => ?_⟩
      · repeat trivial
        refine ⟨_, ?_, b10, fs ++ [c], rfl, by simp, sub.append (List.Sublist.refl _), hb10.mono (by simp; omega)⟩
        repeat trivial
      · refine ⟨_, ?_, b10, fs, rfl, rfl, sub.trans (List.sublist_append_left _ _), hb10.mono (by simp; omega)⟩
        repeat trivial
  · rintro _ ⟨b, M, rfl, hM, hb⟩
    repeat trivial
theorem pure_law (ns : List Int) (hl : ns.length ≤ 63) : m_law [.scr ns] = some (.val (.bl true)) := pure_of right_ok ns hl
end Bl
theorem PySem.Challenge.cw_belowlast_k85_whole_calls_and_tools_holds : PySem.Challenge.rw_belowlast_k85_whole_calls_and_tools.Holds := by
  exact Bl.holds_of Bl.pure_law
