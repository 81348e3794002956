import PyProof.Rows.All
import Wide.All
import OpenK.AllK
import Wide.FinOn
import HandS.ForMost
import HandS.Exc
import HandS.TupLe
import HandS.Deep
import HandS.Style
import HandS.Flow
import HandS.SortInts
import HandS.Iter
import HandS.Zip
import HandS.ExcOwn
import HandS.WordsExc
import HandS.Defaults
import HandS.Comp
import HandS.IsInst
import HandS.Text
import HandS.FStr
import HandS.RaiseMore
import KE.KStateDown
import Lean
import HandS.Ends
import HandS.More
import HandS.Head0
import HandS.Head1
import HandS.Head2
import HandS.HeadEnd
import HandS.HeadHook1
import HandS.HeadHook2
import PySem.Challenge.RW_quietbumps_k02_releases_and_their_texts
set_option Elab.async false
set_option linter.all false
set_option maxRecDepth 100000
set_option maxHeartbeats 0
/-! Plain values over the heap: a value is a tree; lists (and objects) that a def may change stand in its slots. -/
namespace QB
open PySem L2

/-- a plain value -/
inductive PV where
  | non | bl (b : Bool) | int (i : Int) | str (x : Str)
  | tup (xs : List PV) | lst (xs : List PV) | rdl (xs : List PV)
  | ins (c : Str) (ks : List Str) (xs : List PV)
  | dct (ks : List Key) (xs : List PV)
  deriving Inhabited

/-- an object that may change -/
inductive MO where
  | lst (xs : List PV)
  | ins (c : Str) (ks : List Str) (xs : List PV)
  | dct (ks : List Key) (xs : List PV)
  deriving Inhabited
def MO.pv : MO → PV
  | .lst xs => .lst xs
  | .ins c ks xs => .ins c ks xs
  | .dct ks xs => .dct ks xs

inductive Slot where
  | val (p : PV) | own (o : MO) | par (o : MO)
  deriving Inhabited
def Slot.chg : Slot → Bool
  | .own _ => true
  | .par _ => true
  | _ => false
def Slot.pin : Slot → Bool
  | .par _ => true
  | _ => false
def Slot.pv : Slot → PV
  | .val p => p
  | .own o => o.pv
  | .par o => o.pv

abbrev En := List (Option Slot)
inductive RV where
  | val (p : PV) | own (o : MO)
  deriving Inhabited
def RV.pv : RV → PV
  | .val p => p
  | .own o => o.pv
def RV.slot : RV → Slot
  | .val p => .val p
  | .own o => .own o

/-- an exception: its class by name, its fields -/
structure PX where
  cls : Str
  ks : List Str
  xs : List PV

section
variable (K : PySem.W.Frag) (ca : Str → Addr)
mutual
def Rep (G : Hp) : PV → V → Prop
  | .non, v => v = .non
  | .bl b, v => v = .bl b
  | .int i, v => v = .int i
  | .str x, v => v = .str x
  | .tup xs, v => ∃ a vs, v = .ref a ∧ SqT K G a vs ∧ Reps G xs vs
  | .lst xs, v => ∃ a vs, v = .ref a ∧ G a = some (.lst vs) ∧ Reps G xs vs
  | .rdl xs, v => ∃ a vs, v = .ref a ∧ SqL K G a vs ∧ Reps G xs vs
  | .ins c ks xs, v => ∃ a dx fs, v = .ref a ∧ G a = some (.ins (ca c) dx fs) ∧ fs.map (·.1) = ks ∧ Reps G xs (fs.map (·.2))
  | .dct ks xs, v => ∃ a kvs, v = .ref a ∧ G a = some (.dK kvs) ∧ kvs.map (·.1) = ks ∧ Reps G xs (kvs.map (·.2))
def Reps (G : Hp) : List PV → List V → Prop
  | [], vs => vs = []
  | x :: xs, vs => ∃ v r, vs = v :: r ∧ Rep G x v ∧ Reps G xs r
end

/-- the object at a is o; its parts stand in G -/
def MRep (G H : Hp) (a : Addr) : MO → Prop
  | .lst xs => ∃ vs, H a = some (.lst vs) ∧ Reps K ca G xs vs
  | .ins c ks xs => ∃ dx fs, H a = some (.ins (ca c) dx fs) ∧ fs.map (·.1) = ks ∧ Reps K ca G xs (fs.map (·.2))
  | .dct ks xs => ∃ kvs, H a = some (.dK kvs) ∧ kvs.map (·.1) = ks ∧ Reps K ca G xs (kvs.map (·.2))
/-- as Rep, the top itself may be hidden in G -/
def RepT (G H : Hp) : PV → V → Prop
  | .tup xs, v => ∃ a vs, v = .ref a ∧ SqT K G a vs ∧ Reps K ca G xs vs
  | .lst xs, v => ∃ a vs, v = .ref a ∧ H a = some (.lst vs) ∧ Reps K ca G xs vs
  | .rdl xs, v => ∃ a vs, v = .ref a ∧ SqL K G a vs ∧ Reps K ca G xs vs
  | .ins c ks xs, v => ∃ a dx fs, v = .ref a ∧ H a = some (.ins (ca c) dx fs) ∧ fs.map (·.1) = ks ∧ Reps K ca G xs (fs.map (·.2))
  | .dct ks xs, v => ∃ a kvs, v = .ref a ∧ H a = some (.dK kvs) ∧ kvs.map (·.1) = ks ∧ Reps K ca G xs (kvs.map (·.2))
  | .non, v => v = .non
  | .bl b, v => v = .bl b
  | .int i, v => v = .int i
  | .str x, v => v = .str x
end

theorem Same.sqT {K : PySem.W.Frag} {H H' : Hp} {a : Addr} {xs : List V} (e : Same H H') (h : SqT K H a xs) : SqT K H' a xs := by
  rcases h with (h | ⟨o, h⟩) | h
  · exact .inl (.inl (e _ _ h))
  · exact .inl (.inr ⟨o, e _ _ h⟩)
  · exact .inr h

section
variable {K : PySem.W.Frag} {ca : Str → Addr} {G G' : Hp}
mutual
theorem Rep.mono (s : Same G G') : ∀ {p : PV} {v : V}, Rep K ca G p v → Rep K ca G' p v
  | .non, _, h => h
  | .bl _, _, h => h
  | .int _, _, h => h
  | .str _, _, h => h
  | .tup xs, v, h => by
    obtain ⟨a, vs, e, q, r⟩ := h
    exact ⟨a, vs, e, Same.sqT s q, Reps.mono s r⟩
  | .lst xs, v, h => by
    obtain ⟨a, vs, e, q, r⟩ := h
    exact ⟨a, vs, e, s _ _ q, Reps.mono s r⟩
  | .rdl xs, v, h => by
    obtain ⟨a, vs, e, q, r⟩ := h
    exact ⟨a, vs, e, Same.seq s q, Reps.mono s r⟩
  | .ins c ks xs, v, h => by
    obtain ⟨a, dx, fs, e, q, z, r⟩ := h
    exact ⟨a, dx, fs, e, s _ _ q, z, Reps.mono s r⟩
  | .dct ks xs, v, h => by
    obtain ⟨a, kvs, e, q, z, r⟩ := h
    exact ⟨a, kvs, e, s _ _ q, z, Reps.mono s r⟩
theorem Reps.mono (s : Same G G') : ∀ {ps : List PV} {vs : List V}, Reps K ca G ps vs → Reps K ca G' ps vs
  | [], _, h => h
  | x :: xs, vs, h => by
    obtain ⟨v, r, e, h1, h2⟩ := h
    exact ⟨v, r, e, Rep.mono s h1, Reps.mono s h2⟩
end
theorem Reps.length : ∀ {ps : List PV} {vs : List V}, Reps K ca G ps vs → vs.length = ps.length
  | [], _, h => by rw [show _ = [] from h]; rfl
  | x :: xs, vs, h => by
    obtain ⟨v, r, e, h1, h2⟩ := h
    rw [e, List.length_cons, List.length_cons, Reps.length h2]
theorem Reps.get : ∀ {ps : List PV} {vs : List V} {i : Nat} {p : PV}, Reps K ca G ps vs → ps[i]? = some p → ∃ v, vs[i]? = some v ∧ Rep K ca G p v
  | [], _, _, _, _, e => by simp at e
  | x :: xs, vs, 0, p, h, e => by
    obtain ⟨v, r, e1, h1, h2⟩ := h
    simp at e; subst e
    exact ⟨v, by rw [e1]; rfl, h1⟩
  | x :: xs, vs, i + 1, p, h, e => by
    obtain ⟨v, r, e1, h1, h2⟩ := h
    obtain ⟨w, q1, q2⟩ := Reps.get (i := i) h2 (by simpa using e)
    exact ⟨w, by rw [e1]; simpa using q1, q2⟩
theorem Reps.getV {ps : List PV} {vs : List V} {i : Nat} {v : V} (h : Reps K ca G ps vs) (e : vs[i]? = some v) : ∃ p, ps[i]? = some p ∧ Rep K ca G p v := by
  have hl := h.length
  have hi : i < ps.length := by
    have := (List.getElem?_eq_some_iff.mp e).1
    omega
  obtain ⟨w, e1, r⟩ := h.get (i := i) (p := ps[i]) (by simp [hi])
  rw [e] at e1; cases e1
  exact ⟨ps[i], by simp [hi], r⟩
theorem Reps.append : ∀ {ps qs : List PV} {vs ws : List V}, Reps K ca G ps vs → Reps K ca G qs ws → Reps K ca G (ps ++ qs) (vs ++ ws)
  | [], _, _, _, h, h' => by rw [show _ = [] from h]; exact h'
  | x :: xs, qs, vs, ws, h, h' => by
    obtain ⟨v, r, e, h1, h2⟩ := h
    subst e
    exact ⟨v, r ++ ws, rfl, h1, Reps.append h2 h'⟩
theorem Reps.one {p : PV} {v : V} (h : Rep K ca G p v) : Reps K ca G [p] [v] := ⟨v, [], rfl, h, rfl⟩
theorem Reps.cons {p : PV} {v : V} {ps : List PV} {vs : List V} (h : Rep K ca G p v) (hs : Reps K ca G ps vs) : Reps K ca G (p :: ps) (v :: vs) := ⟨v, vs, rfl, h, hs⟩
theorem Reps.set : ∀ {ps : List PV} {vs : List V} {i : Nat} {p : PV} {v : V}, Reps K ca G ps vs → Rep K ca G p v → Reps K ca G (ps.set i p) (vs.set i v)
  | [], _, _, _, _, h, _ => by rw [show _ = [] from h]; rfl
  | x :: xs, vs, 0, p, v, h, h' => by
    obtain ⟨w, r, e, h1, h2⟩ := h
    subst e
    exact ⟨v, r, rfl, h', h2⟩
  | x :: xs, vs, i + 1, p, v, h, h' => by
    obtain ⟨w, r, e, h1, h2⟩ := h
    subst e
    exact ⟨w, r.set i v, rfl, h1, Reps.set h2 h'⟩
theorem Reps.take : ∀ {ps : List PV} {vs : List V} (n : Nat), Reps K ca G ps vs → Reps K ca G (ps.take n) (vs.take n)
  | _, _, 0, _ => rfl
  | [], _, n + 1, h => by rw [show _ = [] from h]; rfl
  | x :: xs, vs, n + 1, h => by
    obtain ⟨w, r, e, h1, h2⟩ := h
    subst e
    exact ⟨w, r.take n, rfl, h1, Reps.take n h2⟩
theorem Reps.drop : ∀ {ps : List PV} {vs : List V} (n : Nat), Reps K ca G ps vs → Reps K ca G (ps.drop n) (vs.drop n)
  | _, _, 0, h => h
  | [], _, n + 1, h => by rw [show _ = [] from h]; rfl
  | x :: xs, vs, n + 1, h => by
    obtain ⟨w, r, e, h1, h2⟩ := h
    subst e
    exact Reps.drop n h2
theorem Rep.top {H : Hp} {p : PV} {v : V} (h : Rep K ca G p v) (s : Same G H) : RepT K ca G H p v := by
  cases p with
  | tup xs => exact h
  | lst xs => obtain ⟨a, vs, e, q, r⟩ := h; exact ⟨a, vs, e, s _ _ q, r⟩
  | rdl xs => exact h
  | ins c ks xs => obtain ⟨a, dx, fs, e, q, z, r⟩ := h; exact ⟨a, dx, fs, e, s _ _ q, z, r⟩
  | dct ks xs => obtain ⟨a, kvs, e, q, z, r⟩ := h; exact ⟨a, kvs, e, s _ _ q, z, r⟩
  | non => exact h
  | bl _ => exact h
  | int _ => exact h
  | str _ => exact h
theorem RepT.rep {H : Hp} {p : PV} {v : V} (h : RepT K ca G H p v) (s : Same G H) : Rep K ca H p v := by
  cases p with
  | tup xs => obtain ⟨a, vs, e, q, r⟩ := h; exact ⟨a, vs, e, Same.sqT s q, r.mono s⟩
  | lst xs => obtain ⟨a, vs, e, q, r⟩ := h; exact ⟨a, vs, e, q, r.mono s⟩
  | rdl xs => obtain ⟨a, vs, e, q, r⟩ := h; exact ⟨a, vs, e, Same.seq s q, r.mono s⟩
  | ins c ks xs => obtain ⟨a, dx, fs, e, q, z, r⟩ := h; exact ⟨a, dx, fs, e, q, z, r.mono s⟩
  | dct ks xs => obtain ⟨a, kvs, e, q, z, r⟩ := h; exact ⟨a, kvs, e, q, z, r.mono s⟩
  | non => exact h
  | bl _ => exact h
  | int _ => exact h
  | str _ => exact h
theorem MRep.top {H : Hp} {a : Addr} {o : MO} (h : MRep K ca G H a o) : RepT K ca G H o.pv (.ref a) := by
  cases o with
  | lst xs => obtain ⟨vs, e, r⟩ := h; exact ⟨a, vs, rfl, e, r⟩
  | ins c ks xs => obtain ⟨dx, fs, e, z, r⟩ := h; exact ⟨a, dx, fs, rfl, e, z, r⟩
  | dct ks xs => obtain ⟨kvs, e, z, r⟩ := h; exact ⟨a, kvs, rfl, e, z, r⟩
theorem MRep.rep {H : Hp} {a : Addr} {o : MO} (h : MRep K ca G H a o) (s : Same G H) : Rep K ca H o.pv (.ref a) := by
  cases o with
  | lst xs => obtain ⟨vs, e, r⟩ := h; exact ⟨a, vs, rfl, e, r.mono s⟩
  | ins c ks xs => obtain ⟨dx, fs, e, z, r⟩ := h; exact ⟨a, dx, fs, rfl, e, z, r.mono s⟩
  | dct ks xs => obtain ⟨kvs, e, z, r⟩ := h; exact ⟨a, kvs, rfl, e, z, r.mono s⟩
theorem MRep.mono {H H' : Hp} {a : Addr} {o : MO} (h : MRep K ca G H a o) (s : Same G G') (e : H' a = H a) : MRep K ca G' H' a o := by
  cases o with
  | lst xs => obtain ⟨vs, q, r⟩ := h; exact ⟨vs, e.trans q, r.mono s⟩
  | ins c ks xs => obtain ⟨dx, fs, q, z, r⟩ := h; exact ⟨dx, fs, e.trans q, z, r.mono s⟩
  | dct ks xs => obtain ⟨kvs, q, z, r⟩ := h; exact ⟨kvs, e.trans q, z, r.mono s⟩
theorem MRep.some {H : Hp} {a : Addr} {o : MO} (h : MRep K ca G H a o) : (H a).isSome = true := by
  cases o with
  | lst xs => obtain ⟨vs, q, r⟩ := h; rw [q]; rfl
  | ins c ks xs => obtain ⟨dx, fs, q, z, r⟩ := h; rw [q]; rfl
  | dct ks xs => obtain ⟨kvs, q, z, r⟩ := h; rw [q]; rfl
end

/-! ### the part of the heap that stands still -/
open Classical in
noncomputable def hid (H : Hp) (M : Addr → Prop) : Hp := fun a => if M a then none else H a
theorem hid_of {H : Hp} {M : Addr → Prop} {a : Addr} {o : HO} : hid H M a = some o ↔ H a = some o ∧ ¬ M a := by
  unfold hid
  split
  · simp [*]
  · simp [*]
theorem hid_same {H : Hp} {M : Addr → Prop} : Same (hid H M) H := fun _ _ h => (hid_of.mp h).1
theorem hid_less {H : Hp} {M M' : Addr → Prop} (h : ∀ a, M' a → M a) : Same (hid H M) (hid H M') := fun _ _ e => hid_of.mpr ⟨(hid_of.mp e).1, fun z => (hid_of.mp e).2 (h _ z)⟩
def addM (M : Addr → Prop) (p : Addr) : Addr → Prop := fun a => M a ∨ a = p
def subM (M : Addr → Prop) (p : Addr) : Addr → Prop := fun a => M a ∧ a ≠ p

/-- a def's activation (or a part of it): the heap at its begin, what was hidden there, what of that may change, pinned slots -/
structure Fx where
  H0 : Hp
  M0 : Addr → Prop
  ch : Addr → Prop
  par : List (Nat × Addr)

def SRep (K : PySem.W.Frag) (ca : Str → Addr) (M : Addr → Prop) (H : Hp) (v : V) : Slot → Prop
  | .val p => Rep K ca (hid H M) p v
  | .own o => ∃ a, v = .ref a ∧ M a ∧ MRep K ca (hid H M) H a o
  | .par o => ∃ a, v = .ref a ∧ M a ∧ MRep K ca (hid H M) H a o

structure Sim (K : PySem.W.Frag) (ca : Str → Addr) (c : Fx) (M : Addr → Prop) (σ : St) (H : Hp) (e : En) : Prop where
  len : e.length = σ.length
  slot : ∀ (i : Nat) s, e[i]? = some (some s) → ∃ v, σ[i]? = some (some v) ∧ SRep K ca M H v s
  inj : ∀ (i j : Nat) s t (a : Addr), e[i]? = some (some s) → e[j]? = some (some t) → s.chg = true → (t.chg = true ∨ t.pin = true) → σ[i]? = some (some (.ref a)) → σ[j]? = some (some (.ref a)) → i = j
  ext : Same (hid c.H0 c.M0) (hid H M)
  frame : ∀ a, c.M0 a → ¬ c.ch a → M a ∧ H a = c.H0 a
  ownd : ∀ (i : Nat) s (a : Addr), e[i]? = some (some s) → s.chg = true → σ[i]? = some (some (.ref a)) → c.ch a ∨ ¬ c.M0 a
  par : ∀ p ∈ c.par, σ[p.1]? = some (some (.ref p.2)) ∧ ∃ s, e[p.1]? = some (some s) ∧ s.pin = true
  there : ∀ a, M a → (H a).isSome = true
  cthere : ∀ a, c.ch a → (H a).isSome = true
  sub : ∀ a, c.ch a → c.M0 a

section
variable {K : PySem.W.Frag} {ca : Str → Addr} {c : Fx} {M M' : Addr → Prop} {σ σ' : St} {H H' : Hp} {e e' : En}

theorem Sim.freshM (S : Sim K ca c M σ H e) {p : Addr} (hp : H p = none) : ¬ M p := fun z => by
  have := S.there p z
  rw [hp] at this; cases this
theorem Sim.fresh0 (S : Sim K ca c M σ H e) {p : Addr} (hp : H p = none) : ¬ c.M0 p := fun z => by
  by_cases hc : c.ch p
  · have := S.cthere p hc
    rw [hp] at this; cases this
  · exact S.freshM hp (S.frame p z hc).1

/-- the same state as the begin of a part -/
def Fx.at (M : Addr → Prop) (σ : St) (H : Hp) (e : En) (par : List (Nat × Addr)) : Fx :=
  ⟨H, M, fun a => ∃ (i : Nat) (s : Slot), e[i]? = some (some s) ∧ s.chg = true ∧ σ[i]? = some (some (.ref a)), par⟩
theorem SRep.chg_at {s : Slot} {v : V} (h : SRep K ca M H v s) (hc : s.chg = true ∨ s.pin = true) : ∃ a, v = .ref a ∧ M a ∧ (H a).isSome = true := by
  cases s with
  | val p => rcases hc with h | h <;> cases h
  | own o => obtain ⟨a, e, m, r⟩ := h; exact ⟨a, e, m, r.some⟩
  | par o => obtain ⟨a, e, m, r⟩ := h; exact ⟨a, e, m, r.some⟩
theorem Sim.chg_at (S : Sim K ca c M σ H e) {i : Nat} {s : Slot} {a : Addr} (h : e[i]? = some (some s)) (hc : s.chg = true ∨ s.pin = true) (ha : σ[i]? = some (some (.ref a))) : M a ∧ (H a).isSome = true := by
  obtain ⟨v, e1, r⟩ := S.slot i s h
  obtain ⟨b, e2, m, z⟩ := r.chg_at hc
  rw [ha] at e1; cases e1; cases e2
  exact ⟨m, z⟩
theorem Sim.rebase (S : Sim K ca c M σ H e) {par : List (Nat × Addr)} (hp : ∀ p ∈ par, σ[p.1]? = some (some (.ref p.2)) ∧ ∃ s, e[p.1]? = some (some s) ∧ s.pin = true) : Sim K ca (Fx.at M σ H e par) M σ H e where
  len := S.len
  slot := S.slot
  inj := S.inj
  ext := Same.refl _
  frame := fun a h _ => ⟨h, rfl⟩
  ownd := fun i s a h1 h2 h3 => .inl ⟨i, s, h1, h2, h3⟩
  par := hp
  there := S.there
  cthere := fun a ⟨i, s, h1, h2, h3⟩ => (S.chg_at h1 (.inl h2) h3).2
  sub := fun a ⟨i, s, h1, h2, h3⟩ => (S.chg_at h1 (.inl h2) h3).1
theorem Sim.here (S : Sim K ca c M σ H e) : Sim K ca (Fx.at M σ H e c.par) M σ H e := S.rebase S.par
/-- behind the part -/
theorem Sim.back {par : List (Nat × Addr)} (S : Sim K ca c M σ H e) (S' : Sim K ca (Fx.at M σ H e par) M' σ' H' e') (hp : ∀ p ∈ c.par, p ∈ par) : Sim K ca c M' σ' H' e' where
  len := S'.len
  slot := S'.slot
  inj := S'.inj
  ext := S.ext.trans S'.ext
  frame := fun a h hn => by
    obtain ⟨m, q⟩ := S.frame a h hn
    obtain ⟨m', q'⟩ := S'.frame a m fun ⟨i, s, h1, h2, h3⟩ => by
      rcases S.ownd i s a h1 h2 h3 with z | z
      · exact hn z
      · exact z h
    exact ⟨m', q'.trans q⟩
  ownd := fun i s a h1 h2 h3 => by
    rcases S'.ownd i s a h1 h2 h3 with ⟨j, t, q1, q2, q3⟩ | z
    · exact S.ownd j t a q1 q2 q3
    · by_cases h0 : c.M0 a
      · by_cases hc : c.ch a
        · exact .inl hc
        · exact absurd (S.frame a h0 hc).1 z
      · exact .inr h0
  par := fun p hq => S'.par p (hp p hq)
  there := S'.there
  cthere := fun a h => by
    have h1 := S.cthere a h
    by_cases hm : M a
    · by_cases hs : (Fx.at M σ H e par).ch a
      · exact S'.cthere a hs
      · rw [(S'.frame a hm hs).2]
        exact h1
    · cases q : H a with
      | none => rw [q] at h1; cases h1
      | some o => rw [(hid_of.mp (S'.ext a o (hid_of.mpr ⟨q, hm⟩))).1]; rfl
  sub := S.sub
theorem Sim.backH (S : Sim K ca c M σ H e) (S' : Sim K ca (Fx.at M σ H e c.par) M' σ' H' e') : Sim K ca c M' σ' H' e' := S.back S' fun _ h => h
end
end QB

namespace QB
open PySem L2

/-! ### what code means -/
inductive ER (α : Type) where
  | ok (a : α) (e : En) | exc (x : PX) (e : En) | bad
abbrev EM (α : Type) := En → ER α
def EM.ret {α : Type} (a : α) : EM α := fun e => .ok a e
def EM.bind {α β : Type} (m : EM α) (f : α → EM β) : EM β := fun e => match m e with
  | .ok a e' => f a e'
  | .exc x e' => .exc x e'
  | .bad => .bad
def EM.bad {α : Type} : EM α := fun _ => .bad
def EM.opt {α : Type} : Option α → EM α
  | some a => EM.ret a
  | none => EM.bad
/-- nothing may be raised -/
def EM.calm {α : Type} (m : EM α) : EM α := fun e => match m e with
  | .ok a e' => .ok a e'
  | _ => .bad
instance : Monad EM where
  pure := EM.ret
  bind := EM.bind

inductive SR where
  | nx (e : En) | rt (r : RV) (e : En) | bk (e : En) | ct (e : En) | xc (x : PX) (e : En) | bad
abbrev SM := En → SR

def XRep (K : PySem.W.Frag) (ca : Str → Addr) (M : Addr → Prop) (H : Hp) (x : PX) (cls : Value) (d : Option Addr) : Prop :=
  cls = .ref (ca x.cls) ∧ ((x.ks = [] ∧ x.xs = [] ∧ d = none) ∨ ∃ dd fs, d = some dd ∧ hid H M dd = some (.xd fs) ∧ fs.map (·.1) = x.ks ∧ Reps K ca (hid H M) x.xs (fs.map (·.2)))
theorem XRep.mono {K : PySem.W.Frag} {ca : Str → Addr} {M M' : Addr → Prop} {H H' : Hp} {x : PX} {cls : Value} {d : Option Addr} (h : XRep K ca M H x cls d) (s : Same (hid H M) (hid H' M')) : XRep K ca M' H' x cls d := by
  obtain ⟨h1, h2 | ⟨dd, fs, e1, e2, e3, e4⟩⟩ := h
  · exact ⟨h1, .inl h2⟩
  · exact ⟨h1, .inr ⟨dd, fs, e1, s _ _ e2, e3, e4.mono s⟩⟩

abbrev RelT (α β : Type) := Fx → (Addr → Prop) → St → Hp → En → α → β → Prop
def RdAt {α β : Type} (K : PySem.W.Frag) (ca : Str → Addr) (c : Fx) (m : EM α) (rel : RelT α β) (W : WX) (e : En) (σ : St) (Q : β → Hp → Prop) : Prop :=
  match m e with
  | .ok a e' => ∀ b H' M', Sim K ca c M' σ H' e' → rel c M' σ H' e' a b → Q b H'
  | .exc x e' => ∀ cls d H' M', Sim K ca c M' σ H' e' → XRep K ca M' H' x cls d → W cls d σ H'
  | .bad => False
def Rd {α β : Type} (K : PySem.W.Frag) (ca : Str → Addr) (m : EM α) (rel : RelT α β) (W : WX) (σ : St) (H : Hp) (Q : β → Hp → Prop) : Prop :=
  ∃ c M e, Sim K ca c M σ H e ∧ RdAt K ca c m rel W e σ Q

section
variable {K : PySem.W.Frag} {ca : Str → Addr} {c : Fx} {M : Addr → Prop} {σ : St} {H : Hp} {e : En} {W : WX} {α β γ δ : Type}

theorem RdAt.bindAt {ma : EM α} {f : α → EM γ} {rel1 : RelT α β} {rel2 : RelT γ δ} {Q : δ → Hp → Prop} {P : β → Hp → Prop} (h : RdAt K ca c (ma.bind f) rel2 W e σ Q) (S : Sim K ca c M σ H e)
    (k : ∀ a b H1 M1 e1, Sim K ca c M1 σ H1 e1 → Same (hid H M) (hid H1 M1) → Sim K ca (Fx.at M σ H e c.par) M1 σ H1 e1 → rel1 (Fx.at M σ H e c.par) M1 σ H1 e1 a b → RdAt K ca c (f a) rel2 W e1 σ Q → P b H1) : RdAt K ca (Fx.at M σ H e c.par) ma rel1 W e σ P := by
  unfold RdAt EM.bind at h
  unfold RdAt
  cases q : ma e with
  | ok a e' =>
    rw [q] at h
    exact fun b H' M' S' r => k a b H' M' e' (S.backH S') S'.ext S' r h
  | exc x e' =>
    rw [q] at h
    exact fun cls d H' M' S' r => h cls d H' M' (S.backH S') r
  | bad => rw [q] at h; exact h.elim
theorem RdAt.bind {ma : EM α} {f : α → EM γ} {rel1 : RelT α β} {rel2 : RelT γ δ} {Q : δ → Hp → Prop} {P : β → Hp → Prop} (h : RdAt K ca c (ma.bind f) rel2 W e σ Q) (S : Sim K ca c M σ H e)
    (k : ∀ a b H1 M1 e1, Sim K ca c M1 σ H1 e1 → Same (hid H M) (hid H1 M1) → Sim K ca (Fx.at M σ H e c.par) M1 σ H1 e1 → rel1 (Fx.at M σ H e c.par) M1 σ H1 e1 a b → RdAt K ca c (f a) rel2 W e1 σ Q → P b H1) : Rd K ca ma rel1 W σ H P :=
  ⟨_, M, e, S.here, h.bindAt S k⟩
/-- nothing more -/
theorem RdAt.ret {a : α} {b : β} {rel : RelT α β} {Q : β → Hp → Prop} (h : RdAt K ca c (EM.ret a) rel W e σ Q) (S : Sim K ca c M σ H e) (r : rel c M σ H e a b) : Q b H := h b H M S r
theorem RdAt.okAt {a : α} {b : β} {e' : En} {m : EM α} {rel : RelT α β} {Q : β → Hp → Prop} {H' : Hp} {M' : Addr → Prop} (h : RdAt K ca c m rel W e σ Q) (q : m e = .ok a e') (S : Sim K ca c M' σ H' e') (r : rel c M' σ H' e' a b) : Q b H' := by
  unfold RdAt at h
  rw [q] at h
  exact h b H' M' S r
theorem RdAt.opt {o : Option α} {rel : RelT α β} {Q : β → Hp → Prop} (h : RdAt K ca c (EM.opt o) rel W e σ Q) : ∃ a, o = some a ∧ RdAt K ca c (EM.ret a) rel W e σ Q := by
  cases o with
  | none => exact h.elim
  | some a => exact ⟨a, rfl, h⟩
end

/-- values -/
def relV (K : PySem.W.Frag) (ca : Str → Addr) : RelT RV V := fun c M σ H e r v =>
  Rep K ca (hid H M) r.pv v ∧ match r with
    | .val _ => True
    | .own o => ∃ a, v = .ref a ∧ ¬ M a ∧ Sim K ca c (addM M a) σ H e ∧ MRep K ca (hid H (addM M a)) H a o
/-- what is read by its name, or a value -/
inductive Opd where
  | slot (i : Nat) | pv (p : PV)
def relO (K : PySem.W.Frag) (ca : Str → Addr) : RelT Opd V := fun _ M σ H _ o v => match o with
  | .slot i => σ[i]? = some (some v)
  | .pv p => Rep K ca (hid H M) p v
def relOs (K : PySem.W.Frag) (ca : Str → Addr) : RelT (List Opd) (List V) := fun c M σ H e os vs => Paired (fun o v => relO K ca c M σ H e o v) os vs
def relB : RelT Bool Bool := fun _ _ _ _ _ a b => a = b
def Opd.look (e : En) : Opd → Option PV
  | .slot i => match e[i]? with
    | some (some s) => some s.pv
    | _ => none
  | .pv p => some p
def lookM (o : Opd) : EM PV := fun e => match o.look e with
  | some p => .ok p e
  | none => .bad
def looks (e : En) : List Opd → Option (List PV)
  | [] => some []
  | o :: os => match o.look e, looks e os with
    | some p, some ps => some (p :: ps)
    | _, _ => none
def looksM (os : List Opd) : EM (List PV) := fun e => match looks e os with
  | some ps => .ok ps e
  | none => .bad

section
variable {K : PySem.W.Frag} {ca : Str → Addr} {c c' : Fx} {M M' : Addr → Prop} {σ : St} {H H' : Hp} {e e' : En} {W : WX}
theorem SRep.rep {v : V} {s : Slot} (h : SRep K ca M H v s) : RepT K ca (hid H M) H s.pv v := by
  cases s with
  | val p => exact Rep.top h hid_same
  | own o => obtain ⟨a, rfl, m, r⟩ := h; exact r.top
  | par o => obtain ⟨a, rfl, m, r⟩ := h; exact r.top
theorem Sim.look (S : Sim K ca c M σ H e) {o : Opd} {v : V} {p : PV} (r : relO K ca c' M σ H e' o v) (h : o.look e = some p) : RepT K ca (hid H M) H p v := by
  cases o with
  | pv q =>
    cases h
    exact Rep.top r hid_same
  | slot i =>
    unfold Opd.look at h
    cases q : e[i]? with
    | none => simp only [q] at h; cases h
    | some z =>
      cases z with
      | none => simp only [q] at h; cases h
      | some s =>
        simp only [q] at h
        cases h
        obtain ⟨w, e1, r1⟩ := S.slot i s q
        have r' : σ[i]? = some (some v) := r
        rw [r'] at e1; cases e1
        exact r1.rep
theorem relO.mono {o : Opd} {v : V} (r : relO K ca c M σ H e o v) (s : Same (hid H M) (hid H' M')) : relO K ca c' M' σ H' e' o v := by
  cases o with
  | slot i => exact r
  | pv p => exact Rep.mono s r
theorem Sim.looks (S : Sim K ca c M σ H e) : ∀ {os : List Opd} {vs : List V} {ps : List PV}, relOs K ca c' M σ H e' os vs → QB.looks e os = some ps → Paired (fun p v => RepT K ca (hid H M) H p v) ps vs
  | [], _, ps, .nil, h => by cases h; exact .nil
  | o :: os, v :: vs, ps, .cons r t, h => by
    unfold QB.looks at h
    cases h1 : o.look e with
    | none => rw [h1] at h; cases h
    | some p =>
      cases h2 : QB.looks e os with
      | none => rw [h1, h2] at h; cases h
      | some qs =>
        rw [h1, h2] at h
        cases h
        exact .cons (S.look r h1) (S.looks t h2)
theorem relOs.mono : ∀ {os : List Opd} {vs : List V}, relOs K ca c M σ H e os vs → Same (hid H M) (hid H' M') → relOs K ca c' M' σ H' e' os vs
  | _, _, .nil, _ => .nil
  | _, _, .cons r t, s => .cons (relO.mono r s) (relOs.mono t s)
theorem RdAt.lookM {γ δ : Type} {o : Opd} {v : V} {f : PV → EM γ} {rel : RelT γ δ} {Q : δ → Hp → Prop} (h : RdAt K ca c ((QB.lookM o).bind f) rel W e σ Q) (S : Sim K ca c M σ H e) (r : relO K ca c' M σ H e' o v) :
    ∃ p, o.look e = some p ∧ RepT K ca (hid H M) H p v ∧ RdAt K ca c (f p) rel W e σ Q := by
  unfold RdAt EM.bind QB.lookM at h
  cases q : o.look e with
  | none => rw [q] at h; exact h.elim
  | some p => rw [q] at h; exact ⟨p, rfl, S.look r q, h⟩
theorem RdAt.looksM {γ δ : Type} {os : List Opd} {vs : List V} {f : List PV → EM γ} {rel : RelT γ δ} {Q : δ → Hp → Prop} (h : RdAt K ca c ((QB.looksM os).bind f) rel W e σ Q) (S : Sim K ca c M σ H e) (r : relOs K ca c' M σ H e' os vs) :
    ∃ ps, QB.looks e os = some ps ∧ Paired (fun p v => RepT K ca (hid H M) H p v) ps vs ∧ RdAt K ca c (f ps) rel W e σ Q := by
  unfold RdAt EM.bind QB.looksM at h
  cases q : QB.looks e os with
  | none => rw [q] at h; exact h.elim
  | some p => rw [q] at h; exact ⟨p, rfl, S.looks r q, h⟩

/-! ### new objects -/
theorem same_upd {p : Addr} {o : HO} (hp : H p = none) : Same (hid H M) (hid (upd H p o) M) := fun a q h => by
  obtain ⟨h1, h2⟩ := hid_of.mp h
  exact hid_of.mpr ⟨by rw [upd_ne (ne_of_none h1 hp)]; exact h1, h2⟩
theorem same_updA {p : Addr} {o : HO} (hp : H p = none) : Same (hid H M) (hid (upd H p o) (addM M p)) := fun a q h => by
  obtain ⟨h1, h2⟩ := hid_of.mp h
  have ne := ne_of_none h1 hp
  exact hid_of.mpr ⟨by rw [upd_ne ne]; exact h1, fun z => z.elim h2 ne⟩
theorem upd_live {p a : Addr} {o : HO} (h : (H a).isSome = true) : (upd H p o a).isSome = true := by
  unfold upd
  split
  · rfl
  · exact h
theorem SRep.alloc {p : Addr} {o : HO} {v : V} {s : Slot} (hp : H p = none) (h : SRep K ca M H v s) : SRep K ca M (upd H p o) v s := by
  have ne : ∀ {a : Addr} {m : MO}, MRep K ca (hid H M) H a m → upd H p o a = H a := fun {a m} r => by
    refine upd_ne fun z => ?_
    have := r.some
    rw [z, hp] at this; cases this
  cases s with
  | val q => exact Rep.mono (same_upd hp) h
  | own m => obtain ⟨a, e1, e2, r⟩ := h; exact ⟨a, e1, e2, r.mono (same_upd hp) (ne r)⟩
  | par m => obtain ⟨a, e1, e2, r⟩ := h; exact ⟨a, e1, e2, r.mono (same_upd hp) (ne r)⟩
theorem SRep.allocA {p : Addr} {o : HO} {v : V} {s : Slot} (hp : H p = none) (h : SRep K ca M H v s) : SRep K ca (addM M p) (upd H p o) v s := by
  have ne : ∀ {a : Addr} {m : MO}, MRep K ca (hid H M) H a m → upd H p o a = H a := fun {a m} r => by
    refine upd_ne fun z => ?_
    have := r.some
    rw [z, hp] at this; cases this
  cases s with
  | val q => exact Rep.mono (same_updA hp) h
  | own m => obtain ⟨a, e1, e2, r⟩ := h; exact ⟨a, e1, .inl e2, r.mono (same_updA hp) (ne r)⟩
  | par m => obtain ⟨a, e1, e2, r⟩ := h; exact ⟨a, e1, .inl e2, r.mono (same_updA hp) (ne r)⟩
theorem Sim.alloc (S : Sim K ca c M σ H e) {p : Addr} {o : HO} (hp : H p = none) : Sim K ca c M σ (upd H p o) e where
  len := S.len
  slot := fun i s h => by
    obtain ⟨v, e1, r⟩ := S.slot i s h
    exact ⟨v, e1, r.alloc hp⟩
  inj := S.inj
  ext := S.ext.trans (same_upd hp)
  frame := fun a h hn => by
    obtain ⟨m, q⟩ := S.frame a h hn
    have ne : a ≠ p := fun z => S.freshM hp (z ▸ m)
    refine ⟨m, ?_⟩
    rw [upd_ne ne]
    exact q
  ownd := S.ownd
  par := S.par
  there := fun a h => upd_live (S.there a h)
  cthere := fun a h => upd_live (S.cthere a h)
  sub := S.sub
theorem Sim.allocA (S : Sim K ca c M σ H e) {p : Addr} {o : HO} (hp : H p = none) : Sim K ca c (addM M p) σ (upd H p o) e where
  len := S.len
  slot := fun i s h => by
    obtain ⟨v, e1, r⟩ := S.slot i s h
    exact ⟨v, e1, r.allocA hp⟩
  inj := S.inj
  ext := S.ext.trans (same_updA hp)
  frame := fun a h hn => by
    obtain ⟨m, q⟩ := S.frame a h hn
    have ne : a ≠ p := fun z => S.freshM hp (z ▸ m)
    refine ⟨.inl m, ?_⟩
    rw [upd_ne ne]
    exact q
  ownd := S.ownd
  par := S.par
  there := fun a h => by
    rcases h with h | h
    · exact upd_live (S.there a h)
    · rw [h, upd_same]; rfl
  cthere := fun a h => upd_live (S.cthere a h)
  sub := S.sub
/-- a new list, handed on -/
theorem relV.newL (S : Sim K ca c M σ H e) {p : Addr} {ps : List PV} {vs : List V} (hp : H p = none) (r : Reps K ca (hid H M) ps vs) : relV K ca c M σ (upd H p (.lst vs)) e (.own (.lst ps)) (.ref p) := by
  refine ⟨⟨p, vs, rfl, hid_of.mpr ⟨upd_same, S.freshM hp⟩, r.mono (same_upd hp)⟩, p, rfl, S.freshM hp, S.allocA hp, vs, upd_same, r.mono (same_updA hp)⟩
theorem relV.newT (S : Sim K ca c M σ H e) {p : Addr} {ps : List PV} {vs : List V} (hp : H p = none) (r : Reps K ca (hid H M) ps vs) : relV K ca c M σ (upd H p (.tup vs)) e (.val (.tup ps)) (.ref p) :=
  ⟨⟨p, vs, rfl, .inl (.inl (hid_of.mpr ⟨upd_same, S.freshM hp⟩)), r.mono (same_upd hp)⟩, trivial⟩
theorem relV.val {p : PV} {v : V} (r : Rep K ca (hid H M) p v) : relV K ca c M σ H e (.val p) v := ⟨r, trivial⟩

/-! ### a name's value is handed on: what it names stands still from then on -/
def getM (i : Nat) : EM RV := fun e => match e[i]? with
  | some (some (.val p)) => .ok (.val p) e
  | some (some (.own o)) => .ok (.val o.pv) (e.set i (some (.val o.pv)))
  | _ => .bad
theorem Sim.freeze (S : Sim K ca c M σ H e) {i : Nat} {o : MO} {a : Addr} (h : e[i]? = some (some (.own o))) (ha : σ[i]? = some (some (.ref a))) :
    Sim K ca c (subM M a) σ H (e.set i (some (.val o.pv))) ∧ Rep K ca (hid H (subM M a)) o.pv (.ref a) := by
  have hi : i < e.length := (List.getElem?_eq_some_iff.mp h).1
  have sm : Same (hid H M) (hid H (subM M a)) := hid_less fun b z => z.1
  obtain ⟨v, e1, r⟩ := S.slot i _ h
  rw [ha] at e1; cases e1
  obtain ⟨a', ea, ma, mr⟩ := r
  cases ea
  have nm : ¬ subM M a a := fun z => z.2 rfl
  have rep : Rep K ca (hid H (subM M a)) o.pv (.ref a) := by
    cases o with
    | lst xs => obtain ⟨vs, q, r⟩ := mr; exact ⟨a, vs, rfl, hid_of.mpr ⟨q, nm⟩, r.mono sm⟩
    | ins cc ks xs => obtain ⟨dx, fs, q, z, r⟩ := mr; exact ⟨a, dx, fs, rfl, hid_of.mpr ⟨q, nm⟩, z, r.mono sm⟩
    | dct ks xs => obtain ⟨kvs, q, z, r⟩ := mr; exact ⟨a, kvs, rfl, hid_of.mpr ⟨q, nm⟩, z, r.mono sm⟩
  have other : ∀ {j : Nat} {s : Slot}, (e.set i (some (.val o.pv)))[j]? = some (some s) → (j = i ∧ s = .val o.pv) ∨ (j ≠ i ∧ e[j]? = some (some s)) := fun {j s} q => by
    by_cases hj : j = i
    · subst hj
      rw [List.getElem?_set_self hi] at q
      cases q
      exact .inl ⟨rfl, rfl⟩
    · rw [List.getElem?_set_ne (Ne.symm hj)] at q
      exact .inr ⟨hj, q⟩
  refine ⟨⟨by rw [List.length_set]; exact S.len, fun j s q => ?_, fun j k s t b q1 q2 h1 h2 q3 q4 => ?_, S.ext.trans sm, fun b h0 hn => ?_, fun j s b q h1 h2 => ?_, fun p hp => ?_, fun b h0 => S.there b h0.1, S.cthere, S.sub⟩, rep⟩
  · rcases other q with ⟨rfl, rfl⟩ | ⟨hj, q⟩
    · exact ⟨_, ha, rep⟩
    · obtain ⟨v, e1, r⟩ := S.slot j s q
      refine ⟨v, e1, ?_⟩
      have far : (s.chg = true ∨ s.pin = true) → ∀ b, v = .ref b → b ≠ a := fun hc b eb z => by
        subst eb; subst z
        exact hj (S.inj i j _ s b h q rfl hc ha e1).symm
      cases s with
      | val p => exact Rep.mono sm r
      | own m => obtain ⟨b, eb, mb, r⟩ := r; exact ⟨b, eb, ⟨mb, far (.inl rfl) b eb⟩, r.mono sm rfl⟩
      | par m => obtain ⟨b, eb, mb, r⟩ := r; exact ⟨b, eb, ⟨mb, far (.inl rfl) b eb⟩, r.mono sm rfl⟩
  · rcases other q1 with ⟨_, rfl⟩ | ⟨_, q1⟩
    · cases h1
    · rcases other q2 with ⟨_, rfl⟩ | ⟨_, q2⟩
      · rcases h2 with h2 | h2 <;> cases h2
      · exact S.inj j k s t b q1 q2 h1 h2 q3 q4
  · obtain ⟨m, q⟩ := S.frame b h0 hn
    refine ⟨⟨m, fun z => ?_⟩, q⟩
    subst z
    rcases S.ownd i _ b h rfl ha with z | z
    · exact hn z
    · exact z h0
  · rcases other q with ⟨_, rfl⟩ | ⟨_, q⟩
    · cases h1
    · exact S.ownd j s b q h1 h2
  · obtain ⟨q1, s, q2, q3⟩ := S.par p hp
    refine ⟨q1, s, ?_, q3⟩
    by_cases hj : p.1 = i
    · rw [hj, h] at q2; cases q2; cases q3
    · rw [List.getElem?_set_ne (Ne.symm hj)]; exact q2
theorem Sim.get (S : Sim K ca c M σ H e) {i : Nat} {r : RV} {e' : En} (h : getM i e = .ok r e') : ∃ v M', σ[i]? = some (some v) ∧ Sim K ca c M' σ H e' ∧ relV K ca c M' σ H e' r v := by
  unfold getM at h
  cases q : e[i]? with
  | none => rw [q] at h; cases h
  | some z =>
    cases z with
    | none => rw [q] at h; cases h
    | some s =>
      obtain ⟨v, e1, r1⟩ := S.slot i s q
      cases s with
      | val p =>
        rw [q] at h; cases h
        exact ⟨v, M, e1, S, r1, trivial⟩
      | own o =>
        rw [q] at h; cases h
        obtain ⟨a, rfl, _, _⟩ := id r1
        obtain ⟨S', r'⟩ := S.freeze q e1
        exact ⟨_, _, e1, S', r', trivial⟩
      | par o => rw [q] at h; cases h
theorem RdAt.get {i : Nat} {Q : VK} (h : RdAt K ca c (getM i) (relV K ca) W e σ Q) (S : Sim K ca c M σ H e) : ∃ v, σ[i]? = some (some v) ∧ Q v H := by
  unfold RdAt at h
  cases q : getM i e with
  | ok r e' =>
    rw [q] at h
    obtain ⟨v, M', e1, S', r'⟩ := S.get q
    exact ⟨v, e1, h v H M' S' r'⟩
  | exc x e' =>
    exfalso
    unfold getM at q
    split at q <;> cases q
  | bad => rw [q] at h; exact h.elim
end
end QB

namespace QB
open PySem L2

/-! ### judgements -/
def JE (X : Cx) (ca : Str → Addr) (m : EM RV) (e : Expr) : Prop := ∀ W, Takes X W → PE X e (Rd X.K ca m (relV X.K ca) W)
def JO (X : Cx) (ca : Str → Addr) (m : EM Opd) (e : Expr) : Prop := ∀ W, Takes X W → PE X e (Rd X.K ca m (relO X.K ca) W)
def JT (X : Cx) (ca : Str → Addr) (m : EM Bool) (e : Expr) : Prop := ∀ W, Takes X W → PT X e (Rd X.K ca m relB W)
def JW (X : Cx) (ca : Str → Addr) (m : EM Bool) (e : Expr) : Prop := ∀ W, Takes X W → PW X e (Rd X.K ca m relB W)
def JA (X : Cx) (ca : Str → Addr) (m : EM (List Opd)) (es : List Expr) : Prop := ∀ W, Takes X W → PA X es (Rd X.K ca m (relOs X.K ca) W)
def relPs (K : PySem.W.Frag) (ca : Str → Addr) : RelT (List PV) (List V) := fun _ M _ H _ ps vs => Reps K ca (hid H M) ps vs
def JV (X : Cx) (ca : Str → Addr) (m : EM (List PV)) (es : List Expr) : Prop := ∀ W, Takes X W → PA X es (Rd X.K ca m (relPs X.K ca) W)

section
variable {X : Cx} {e : Expr} {es : List Expr}
theorem PE.imp {t t' : TE} (h : PE X e t) (i : ∀ σ H Q, t' σ H Q → t σ H Q) : PE X e t' := ⟨fun pins s σ H Q I q => h.run pins s σ H Q I (i σ H Q q)⟩
theorem PT.imp {t t' : TT} (h : PT X e t) (i : ∀ σ H Q, t' σ H Q → t σ H Q) : PT X e t' := ⟨fun pins s σ H Q I q => h.run pins s σ H Q I (i σ H Q q)⟩
theorem PW.imp {t t' : TT} (h : PW X e t) (i : ∀ σ H Q, t' σ H Q → t σ H Q) : PW X e t' := ⟨fun wh pins s σ H Q I q => h.run wh pins s σ H Q I (i σ H Q q)⟩
theorem PA.imp {t t' : TA} (h : PA X es t) (i : ∀ σ H Q, t' σ H Q → t σ H Q) : PA X es t' := ⟨fun pos pins s σ H Q I q => h.run pos pins s σ H Q I (i σ H Q q)⟩
end

section
variable {X : Cx} {ca : Str → Addr}
/-! ### constants, names -/
theorem je_int {i : Int} {j pos} : JE X ca (EM.ret (.val (.int i))) (.Constant (.int i) j pos) := fun W _ => PE.imp pe_int fun σ H Q ⟨c, M, e, S, h⟩ => h.ret S ⟨rfl, trivial⟩
theorem je_bl {i : Bool} {j pos} : JE X ca (EM.ret (.val (.bl i))) (.Constant (.bool i) j pos) := fun W _ => PE.imp pe_bl fun σ H Q ⟨c, M, e, S, h⟩ => h.ret S ⟨rfl, trivial⟩
theorem je_str {i : Str} {j pos} : JE X ca (EM.ret (.val (.str i))) (.Constant (.str i) j pos) := fun W _ => PE.imp pe_str fun σ H Q ⟨c, M, e, S, h⟩ => h.ret S ⟨rfl, trivial⟩
theorem je_non {j pos} : JE X ca (EM.ret (.val .non)) (.Constant .none j pos) := fun W _ => PE.imp pe_non fun σ H Q ⟨c, M, e, S, h⟩ => h.ret S ⟨rfl, trivial⟩
theorem je_name {i : Nat} {x : Str} {pos : Pos} (hN : X.N[i]? = some x) (hv : Vis X.env.scope x) (hd : (x == ("__debug__" : Str)) = false) (hcd : (x == ("__classdict__" : Str)) = false) : JE X ca (getM i) (.Name x pos) := fun W _ =>
  PE.imp (pe_var hN hv hd hcd) fun σ H Q ⟨c, M, e, S, h⟩ => h.get S
def slotM (i : Nat) : EM Opd := fun e => match e[i]? with
  | some (some _) => .ok (.slot i) e
  | _ => .bad
theorem jo_name {i : Nat} {x : Str} {pos : Pos} (hN : X.N[i]? = some x) (hv : Vis X.env.scope x) (hd : (x == ("__debug__" : Str)) = false) (hcd : (x == ("__classdict__" : Str)) = false) : JO X ca (slotM i) (.Name x pos) := fun W _ =>
  PE.imp (pe_var hN hv hd hcd) fun σ H Q ⟨c, M, e, S, h⟩ => by
    unfold RdAt slotM at h
    cases q : e[i]? with
    | none => simp only [q] at h
    | some z =>
      cases z with
      | none => simp only [q] at h
      | some s =>
        simp only [q] at h
        obtain ⟨v, e1, _⟩ := S.slot i s q
        exact ⟨v, e1, h v H M S e1⟩
/-- a constant of the module -/
def KRep (K : PySem.W.Frag) (ca : Str → Addr) (p : PV) (v : V) : Prop := ∀ G : Hp, Rep K ca G p v
theorem je_glob {x : Str} {v : V} {u : Value} {p : PV} {pos : Pos} (hg : Gl X x) (hm : X.mg x = some u) (r : RelV v u) (k : KRep X.K ca p v) (hd : (x == ("__debug__" : Str)) = false) : JE X ca (EM.ret (.val p)) (.Name x pos) := fun W _ =>
  PE.imp (pe_glob hg hm r hd) fun σ H Q ⟨c, M, e, S, h⟩ => h.ret S ⟨k _, trivial⟩
def opdM (m : EM RV) : EM Opd := m.bind fun r => EM.ret (.pv r.pv)
theorem jo_of {m : EM RV} {e : Expr} (h : JE X ca m e) : JO X ca (opdM m) e := fun W tk =>
  PE.imp (h W tk) fun σ H Q ⟨c, M, e, S, q⟩ => RdAt.bind q S fun a b H1 M1 e1 S1 _ _ r q1 => q1.ret S1 r.1

/-! ### lists of expressions -/
def isStar : Expr → Bool
  | .Starred _ _ => true
  | _ => false
theorem star_cons {e : Expr} {es : List Expr} {env : Env} (h : isStar e = false) : starEach (e :: es) env = (false, eval e env) :: starEach es env := by
  cases e <;> first | rfl | cases h
def opdsNil : EM (List Opd) := EM.ret []
def opdsCons (m : EM Opd) (ms : EM (List Opd)) : EM (List Opd) := m.bind fun o => ms.bind fun os => EM.ret (o :: os)
theorem ja_nil : JA X ca opdsNil [] := fun W _ => PA.imp pa_nil fun σ H Q ⟨c, M, e, S, h⟩ => h.ret S .nil
theorem ja_cons {e : Expr} {es : List Expr} {m : EM Opd} {ms : EM (List Opd)} (hs : isStar e = false) (h : JO X ca m e) (hr : JA X ca ms es) : JA X ca (opdsCons m ms) (e :: es) := fun W tk =>
  PA.imp (pa_cons (h W tk) (hr W tk) (star_cons hs)) fun σ H Q ⟨c, M, e, S, q⟩ => RdAt.bind q S fun o v H1 M1 e1 S1 _ _ r q1 =>
    RdAt.bind q1 S1 fun os vs H2 M2 e2 S2 sm _ r2 q2 => q2.ret S2 (.cons (relO.mono r sm) (relOs.mono r2 (Same.refl _)))
def valsNil : EM (List PV) := EM.ret []
def valsCons (m : EM RV) (ms : EM (List PV)) : EM (List PV) := m.bind fun r => ms.bind fun ps => EM.ret (r.pv :: ps)
theorem jv_nil : JV X ca valsNil [] := fun W _ => PA.imp pa_nil fun σ H Q ⟨c, M, e, S, h⟩ => h.ret S rfl
theorem jv_cons {e : Expr} {es : List Expr} {m : EM RV} {ms : EM (List PV)} (hs : isStar e = false) (h : JE X ca m e) (hr : JV X ca ms es) : JV X ca (valsCons m ms) (e :: es) := fun W tk =>
  PA.imp (pa_cons (h W tk) (hr W tk) (star_cons hs)) fun σ H Q ⟨c, M, e, S, q⟩ => RdAt.bind q S fun r v H1 M1 e1 S1 _ _ rr q1 =>
    RdAt.bind q1 S1 fun ps vs H2 M2 e2 S2 sm _ r2 q2 => q2.ret S2 ⟨v, vs, rfl, rr.1.mono sm, r2⟩
/-- (a, b), [a, b] -/
def szOk (n : Nat) : Bool := decide (n ≤ sizeLine)
def tupM (m : EM (List PV)) : EM RV := m.bind fun ps => if szOk ps.length then EM.ret (.val (.tup ps)) else EM.bad
def lstM (m : EM (List PV)) : EM RV := m.bind fun ps => if szOk ps.length then EM.ret (.own (.lst ps)) else EM.bad
theorem RdAt.ite {K : PySem.W.Frag} {c : Fx} {α β : Type} {rel : RelT α β} {W : WX} {e : En} {σ : St} {Q : β → Hp → Prop} {b : Bool} {m : EM α} (h : RdAt K ca c (if b = true then m else EM.bad) rel W e σ Q) : b = true ∧ RdAt K ca c m rel W e σ Q := by
  cases b with
  | true => exact ⟨rfl, h⟩
  | false => exact False.elim h
theorem je_tup {es : List Expr} {m : EM (List PV)} {k : Nat} {pos : Pos} (h : JV X ca m es) : JE X ca (tupM m) (.Tuple es k pos) := fun W tk =>
  PE.imp (pe_tup (h W tk)) fun σ H Q ⟨c, M, e, S, q⟩ => RdAt.bind q S fun ps vs H1 M1 e1 S1 _ _ r q1 => by
    obtain ⟨hz, q2⟩ := q1.ite
    exact ⟨by rw [r.length]; exact of_decide_eq_true hz, fun p hp => q2.ret (S1.alloc hp) (relV.newT S1 hp r)⟩
theorem je_lst {es : List Expr} {m : EM (List PV)} {pos : Pos} (h : JV X ca m es) : JE X ca (lstM m) (.List es pos) := fun W tk =>
  PE.imp (pe_lst (h W tk)) fun σ H Q ⟨c, M, e, S, q⟩ => RdAt.bind q S fun ps vs H1 M1 e1 S1 _ _ r q1 => by
    obtain ⟨hz, q2⟩ := q1.ite
    exact ⟨by rw [r.length]; exact of_decide_eq_true hz, fun p hp => q2.ret (S1.alloc hp) (relV.newL S1 hp r)⟩

/-! ### operators -/
/-- an operator's meaning, by values -/
def rSem2 (K : PySem.W.Frag) (ca : Str → Addr) (W : WX) (f : PV → PV → EM RV) : R2 := fun v w H Q => ∃ c M σ e x y, Sim K ca c M σ H e ∧ RepT K ca (hid H M) H x v ∧ RepT K ca (hid H M) H y w ∧ RdAt K ca c (f x y) (relV K ca) W e σ Q
def mulOk (i j : Int) : Bool := decide ((-(2 ^ 64) < i ∧ i < 2 ^ 64) ∨ (-(2 ^ 64) < j ∧ j < 2 ^ 64))
def opAdd : PV → PV → EM RV
  | .int i, .int j => EM.ret (.val (.int (i + j)))
  | .str a, .str b => if szOk (a.length + b.length) then EM.ret (.val (.str (a ++ b))) else EM.bad
  | .lst xs, .lst ys => if szOk (xs.length + ys.length) then EM.ret (.own (.lst (xs ++ ys))) else EM.bad
  | .tup xs, .tup ys => if !xs.isEmpty && szOk (xs.length + ys.length) then EM.ret (.val (.tup (xs ++ ys))) else EM.bad
  | _, _ => EM.bad
def opSub : PV → PV → EM RV
  | .int i, .int j => EM.ret (.val (.int (i - j)))
  | _, _ => EM.bad
def opMul : PV → PV → EM RV
  | .int i, .int j => if mulOk i j then EM.ret (.val (.int (i * j))) else EM.bad
  | .lst xs, .int k => if decide (0 ≤ k ∧ k < 2 ^ 63) && szOk (xs.length * k.toNat) then EM.ret (.own (.lst (List.replicate k.toNat xs).flatten)) else EM.bad
  | _, _ => EM.bad
def opMod : PV → PV → EM RV
  | .int i, .int j => if decide (0 < j) then EM.ret (.val (.int (i % j))) else EM.bad
  | _, _ => EM.bad
def opDiv : PV → PV → EM RV
  | .int i, .int j => if decide (0 < j ∧ j < 1073741824) then EM.ret (.val (.int (i / j))) else EM.bad
  | _, _ => EM.bad
def opPow : PV → PV → EM RV
  | .int i, .int j => if decide (0 ≤ j ∧ j ≤ 1000000 ∧ i.natAbs < 2 ^ 64) then EM.ret (.val (.int (i ^ j.toNat))) else EM.bad
  | _, _ => EM.bad
theorem Reps.rep {K : PySem.W.Frag} {G : Hp} {ps : List PV} {vs : List V} (h : Reps K ca G ps vs) : ∀ k : Nat, Reps K ca G (List.replicate k ps).flatten (List.replicate k vs).flatten
  | 0 => rfl
  | k + 1 => by rw [List.replicate_succ, List.replicate_succ, List.flatten_cons, List.flatten_cons]; exact h.append (Reps.rep h k)
theorem or_add {W : WX} : OpR X (binaryOp .Add) (rSem2 X.K ca W opAdd) := by
  intro pins s σ0 H v w u1 u2 Q I r1 r2 ⟨c, M, σ, e, x, y, S, rx, ry, h⟩
  cases x <;> cases y <;> first | exact False.elim h | skip
  case int.int i j =>
    cases rx; cases ry
    exact op_add pins s σ0 H _ _ u1 u2 Q I r1 r2 ⟨i, j, rfl, rfl, h.ret S ⟨rfl, trivial⟩⟩
  case str.str a b =>
    cases rx; cases ry
    obtain ⟨hz, h⟩ := RdAt.ite h
    exact op_add_str pins s σ0 H _ _ u1 u2 Q I r1 r2 ⟨a, b, rfl, rfl, of_decide_eq_true hz, h.ret S ⟨rfl, trivial⟩⟩
  case lst.lst xs ys =>
    obtain ⟨a, vs, rfl, ha, ra⟩ := rx
    obtain ⟨b, ws, rfl, hb, rb⟩ := ry
    obtain ⟨hz, h⟩ := RdAt.ite h
    refine op_cat pins s σ0 H _ _ u1 u2 Q I r1 r2 ⟨a, b, vs, ws, rfl, rfl, ha, hb, by rw [ra.length, rb.length]; exact of_decide_eq_true hz, fun p hp => ?_⟩
    exact h.ret (S.alloc hp) (relV.newL S hp (ra.append rb))
  case tup.tup xs ys =>
    obtain ⟨a, vs, rfl, ha, ra⟩ := rx
    obtain ⟨b, ws, rfl, hb, rb⟩ := ry
    obtain ⟨hz, h⟩ := RdAt.ite h
    obtain ⟨hn, hz⟩ := Bool.and_eq_true_iff.mp hz
    refine op_catT pins s σ0 H _ _ u1 u2 Q I r1 r2 ⟨a, b, vs, ws, rfl, rfl, Same.sqT hid_same ha, Same.sqT hid_same hb, fun z => ?_, by rw [ra.length, rb.length]; exact of_decide_eq_true hz, fun z => ?_, fun z p hp => ?_⟩
    · have := ra.length
      rw [z] at this
      cases xs with
      | nil => cases hn
      | cons _ _ => cases this
    · have e0 : ys = [] := by
        have := rb.length
        rw [z] at this
        cases ys with
        | nil => rfl
        | cons _ _ => cases this
      subst e0
      refine h.ret S ⟨?_, trivial⟩
      show Rep X.K ca (hid H M) (.tup (xs ++ [])) (.ref a)
      rw [List.append_nil]
      exact ⟨a, vs, rfl, ha, ra⟩
    · exact h.ret (S.alloc hp) (relV.newT S hp (ra.append rb))
theorem or_sub {W : WX} : OpR X (binaryOp .Sub) (rSem2 X.K ca W opSub) := by
  intro pins s σ0 H v w u1 u2 Q I r1 r2 ⟨c, M, σ, e, x, y, S, rx, ry, h⟩
  cases x <;> cases y <;> first | exact False.elim h | skip
  case int.int i j =>
    cases rx; cases ry
    exact op_sub pins s σ0 H _ _ u1 u2 Q I r1 r2 ⟨i, j, rfl, rfl, h.ret S ⟨rfl, trivial⟩⟩
theorem or_mul {W : WX} : OpR X (binaryOp .Mult) (rSem2 X.K ca W opMul) := by
  intro pins s σ0 H v w u1 u2 Q I r1 r2 ⟨c, M, σ, e, x, y, S, rx, ry, h⟩
  cases x <;> cases y <;> first | exact False.elim h | skip
  case int.int i j =>
    cases rx; cases ry
    obtain ⟨hz, h⟩ := RdAt.ite h
    have hc := of_decide_eq_true hz
    exact op_mul pins s σ0 H _ _ u1 u2 Q I r1 r2 ⟨i, j, rfl, rfl, hc, h.ret S ⟨rfl, trivial⟩⟩
  case lst.int xs k =>
    obtain ⟨a, vs, rfl, ha, ra⟩ := rx
    cases ry
    obtain ⟨hz, h⟩ := RdAt.ite h
    obtain ⟨hk, hz⟩ := Bool.and_eq_true_iff.mp hz
    obtain ⟨hk1, hk2⟩ := of_decide_eq_true hk
    refine op_rep pins s σ0 H _ _ u1 u2 Q I r1 r2 ⟨a, k, vs, rfl, rfl, ha, by omega, hk2, by rw [ra.length]; exact of_decide_eq_true hz, fun p hp => ?_⟩
    exact h.ret (S.alloc hp) (relV.newL S hp (ra.rep _))
theorem or_mod {W : WX} : OpR X (binaryOp .Mod) (rSem2 X.K ca W opMod) := by
  intro pins s σ0 H v w u1 u2 Q I r1 r2 ⟨c, M, σ, e, x, y, S, rx, ry, h⟩
  cases x <;> cases y <;> first | exact False.elim h | skip
  case int.int i j =>
    cases rx; cases ry
    obtain ⟨hz, h⟩ := RdAt.ite h
    exact op_mod pins s σ0 H _ _ u1 u2 Q I r1 r2 ⟨i, j, rfl, rfl, of_decide_eq_true hz, h.ret S ⟨rfl, trivial⟩⟩
theorem or_div {W : WX} : OpR X (binaryOp .FloorDiv) (rSem2 X.K ca W opDiv) := by
  intro pins s σ0 H v w u1 u2 Q I r1 r2 ⟨c, M, σ, e, x, y, S, rx, ry, h⟩
  cases x <;> cases y <;> first | exact False.elim h | skip
  case int.int i j =>
    cases rx; cases ry
    obtain ⟨hz, h⟩ := RdAt.ite h
    have hc := of_decide_eq_true hz
    exact op_fdiv pins s σ0 H _ _ u1 u2 Q I r1 r2 ⟨i, j, rfl, rfl, hc, h.ret S ⟨rfl, trivial⟩⟩
theorem or_pow {W : WX} : OpR X (binaryOp .Pow) (rSem2 X.K ca W opPow) := by
  intro pins s σ0 H v w u1 u2 Q I r1 r2 ⟨c, M, σ, e, x, y, S, rx, ry, h⟩
  cases x <;> cases y <;> first | exact False.elim h | skip
  case int.int i j =>
    cases rx; cases ry
    obtain ⟨hz, h⟩ := RdAt.ite h
    have hc := of_decide_eq_true hz
    exact op_pow pins s σ0 H _ _ u1 u2 Q I r1 r2 ⟨i, j, rfl, rfl, hc, h.ret S ⟨rfl, trivial⟩⟩
def opB : Operator → PV → PV → EM RV
  | .Add => opAdd
  | .Sub => opSub
  | .Mult => opMul
  | .Mod => opMod
  | .FloorDiv => opDiv
  | .Pow => opPow
  | _ => fun _ _ => EM.bad
theorem or_bin {W : WX} (op : Operator) : OpR X (binaryOp op) (rSem2 X.K ca W (opB op)) := by
  cases op <;> first | exact or_add | exact or_sub | exact or_mul | exact or_mod | exact or_div | exact or_pow | (intro pins s σ0 H v w u1 u2 Q I r1 r2 ⟨c, M, σ, e, x, y, S, rx, ry, h⟩; exact False.elim h)
/-- two operands, then a meaning by values -/
def two {α : Type} (ma mb : EM Opd) (f : PV → PV → EM α) : EM α := ma.bind fun a => mb.bind fun b => (lookM a).bind fun x => (lookM b).bind fun y => f x y
theorem two_op {W : WX} {ma mb : EM Opd} {f : PV → PV → EM RV} {σ : St} {H : Hp} {Q : VK} (h : Rd X.K ca (two ma mb f) (relV X.K ca) W σ H Q) :
    tOp (rSem2 X.K ca W f) (Rd X.K ca ma (relO X.K ca) W) (Rd X.K ca mb (relO X.K ca) W) σ H Q := by
  obtain ⟨c, M, e, S, q⟩ := h
  refine RdAt.bind q S fun a v H1 M1 e1 S1 _ _ r1 q1 => ?_
  refine RdAt.bind q1 S1 fun b w H2 M2 e2 S2 sm _ r2 q2 => ?_
  obtain ⟨x, _, rx, q3⟩ := q2.lookM (c' := c) (e' := e2) S2 (relO.mono r1 sm)
  obtain ⟨y, _, ry, q4⟩ := q3.lookM S2 r2
  exact ⟨c, M2, σ, e2, x, y, S2, rx, ry, q4⟩
theorem je_bin {a b : Expr} {ma mb : EM Opd} {op : Operator} {pos : Pos} (ha : JO X ca ma a) (hb : JO X ca mb b) : JE X ca (two ma mb (opB op)) (.BinOp a op b pos) := fun W tk =>
  PE.imp (pe_op (or_bin op) (ha W tk) (hb W tk)) fun σ H Q h => two_op h
/-- -a -/
def opNeg : PV → EM RV
  | .int i => EM.ret (.val (.int (-i)))
  | _ => EM.bad
def one {α : Type} (ma : EM Opd) (f : PV → EM α) : EM α := ma.bind fun a => (lookM a).bind fun x => f x
theorem je_neg {a : Expr} {ma : EM Opd} {pos : Pos} (ha : JO X ca ma a) : JE X ca (one ma opNeg) (.UnaryOp .USub a pos) := fun W tk =>
  PE.imp (pe_un un_neg (ha W tk)) fun σ H Q ⟨c, M, e, S, q⟩ => RdAt.bind q S fun a v H1 M1 e1 S1 _ _ r1 q1 => by
    obtain ⟨x, _, rx, q2⟩ := q1.lookM S1 r1
    cases x <;> first | exact False.elim q2 | skip
    case int =>
      cases rx
      exact ⟨_, rfl, q2.ret S1 ⟨rfl, trivial⟩⟩
end
end QB

namespace QB
open PySem L2

/-! ### data -/
mutual
def PV.data : PV → Option PyData
  | .non => some .none
  | .bl b => some (.bool b)
  | .int i => some (.int i)
  | .str x => some (.str x)
  | .tup xs => (datas xs).map .tuple
  | .lst xs => (datas xs).map .list
  | .rdl xs => (datas xs).map .list
  | .ins _ _ _ => none
  | .dct _ _ => none
def datas : List PV → Option (List PyData)
  | [] => some []
  | x :: xs => match PV.data x, datas xs with
    | some d, some ds => some (d :: ds)
    | _, _ => none
end
section
variable {K : PySem.W.Frag} {ca : Str → Addr} {G H : Hp}
mutual
theorem Rep.dp : ∀ {p : PV} {v : V} {d : PyData}, Rep K ca G p v → p.data = some d → Dp K G v d
  | .non, _, _, h, e => by cases h; cases e; exact .non
  | .bl b, _, _, h, e => by cases h; cases e; exact .bl b
  | .int i, _, _, h, e => by cases h; cases e; exact .int i
  | .str x, _, _, h, e => by cases h; cases e; exact .str x
  | .tup xs, _, d, h, e => by
    obtain ⟨a, vs, rfl, q, r⟩ := h
    unfold PV.data at e
    cases z : datas xs with
    | none => rw [z] at e; cases e
    | some ds => rw [z] at e; cases e; exact .tup q (Reps.dp r z)
  | .lst xs, _, d, h, e => by
    obtain ⟨a, vs, rfl, q, r⟩ := h
    unfold PV.data at e
    cases z : datas xs with
    | none => rw [z] at e; cases e
    | some ds => rw [z] at e; cases e; exact .lst (SqL.of q) (Reps.dp r z)
  | .rdl xs, _, d, h, e => by
    obtain ⟨a, vs, rfl, q, r⟩ := h
    unfold PV.data at e
    cases z : datas xs with
    | none => rw [z] at e; cases e
    | some ds => rw [z] at e; cases e; exact .lst q (Reps.dp r z)
  | .ins _ _ _, _, _, _, e => by cases e
  | .dct _ _, _, _, _, e => by cases e
theorem Reps.dp : ∀ {ps : List PV} {vs : List V} {ds : List PyData}, Reps K ca G ps vs → datas ps = some ds → DpAll K G vs ds
  | [], _, _, h, e => by cases h; cases e; exact .nil
  | x :: xs, _, _, h, e => by
    obtain ⟨v, r, rfl, h1, h2⟩ := h
    unfold datas at e
    cases z1 : x.data with
    | none => rw [z1] at e; cases e
    | some d =>
      cases z2 : datas xs with
      | none => rw [z1, z2] at e; cases e
      | some ds => rw [z1, z2] at e; cases e; exact .cons (Rep.dp h1 z1) (Reps.dp h2 z2)
end
end
def shp (d : PyData) : Bool := SeqAt.shaped d
def eqP (x y : PV) : Option Bool := match x.data, y.data with
  | some d, some f => if shp d && shp f then some (PyData.eqv d f) else none
  | _, _ => none
def retB (b : Bool) : EM RV := EM.ret (.val (.bl b))
def opEq (x y : PV) : EM RV := (EM.opt (eqP x y)).bind retB
def opNe (x y : PV) : EM RV := (EM.opt (eqP x y)).bind fun b => retB (!b)

section
variable {X : Cx} {ca : Str → Addr}
theorem RdAt.optB {K : PySem.W.Frag} {c : Fx} {α β γ : Type} {o : Option α} {f : α → EM γ} {rel : RelT γ β} {W : WX} {e : En} {σ : St} {Q : β → Hp → Prop} (h : RdAt K ca c ((EM.opt o).bind f) rel W e σ Q) : ∃ a, o = some a ∧ RdAt K ca c (f a) rel W e σ Q := by
  cases o with
  | none => exact False.elim h
  | some a => exact ⟨a, rfl, h⟩
theorem eqP_inv {x y : PV} {b : Bool} (h : eqP x y = some b) : ∃ d f, x.data = some d ∧ y.data = some f ∧ SeqAt.shaped d = true ∧ SeqAt.shaped f = true ∧ b = PyData.eqv d f := by
  unfold eqP at h
  cases z1 : x.data with
  | none => rw [z1] at h; cases h
  | some d =>
    cases z2 : y.data with
    | none => rw [z1, z2] at h; cases h
    | some f =>
      rw [z1, z2] at h
      dsimp only at h
      cases z : (shp d && shp f) with
      | false => rw [z] at h; cases h
      | true =>
        rw [z] at h
        cases h
        obtain ⟨h1, h2⟩ := Bool.and_eq_true_iff.mp z
        exact ⟨d, f, rfl, rfl, h1, h2, rfl⟩
theorem or_eq {W : WX} (hu : X.A.units + 64 < cLine) : OpR X (compareOp .Eq) (rSem2 X.K ca W opEq) := by
  intro pins s σ0 H v w u1 u2 Q I r1 r2 ⟨c, M, σ, e, x, y, S, rx, ry, h⟩
  obtain ⟨b, hb, h⟩ := RdAt.optB h
  obtain ⟨d, f, e1, e2, s1, s2, rfl⟩ := eqP_inv hb
  exact op_eqD hu pins s σ0 H v w u1 u2 Q I r1 r2 ⟨d, f, Rep.dp (rx.rep hid_same) e1, Rep.dp (ry.rep hid_same) e2, s1, s2, h.ret S ⟨rfl, trivial⟩⟩
theorem or_ne {W : WX} (hu : X.A.units + 64 < cLine) : OpR X (compareOp .NotEq) (rSem2 X.K ca W opNe) := by
  intro pins s σ0 H v w u1 u2 Q I r1 r2 ⟨c, M, σ, e, x, y, S, rx, ry, h⟩
  obtain ⟨b, hb, h⟩ := RdAt.optB h
  obtain ⟨d, f, e1, e2, s1, s2, rfl⟩ := eqP_inv hb
  exact op_neD hu pins s σ0 H v w u1 u2 Q I r1 r2 ⟨d, f, Rep.dp (rx.rep hid_same) e1, Rep.dp (ry.rep hid_same) e2, s1, s2, h.ret S ⟨rfl, trivial⟩⟩

/-! ### order -/
def intsOf : List PV → Option (List Int)
  | [] => some []
  | .int i :: r => (intsOf r).map (i :: ·)
  | _ :: _ => none
theorem intsOf_reps {K : PySem.W.Frag} {G : Hp} : ∀ {ps : List PV} {vs : List V} {ns : List Int}, Reps K ca G ps vs → intsOf ps = some ns → vs = ns.map V.int
  | [], _, _, h, e => by cases h; cases e; rfl
  | .int i :: r, _, ns, h, e => by
    obtain ⟨v, r', rfl, h1, h2⟩ := h
    unfold intsOf at e
    cases z : intsOf r with
    | none => rw [z] at e; cases e
    | some ms =>
      rw [z] at e
      cases e
      cases h1
      rw [intsOf_reps h2 z]
      rfl
  | .non :: r, _, _, _, e => by cases e
  | .bl _ :: r, _, _, _, e => by cases e
  | .str _ :: r, _, _, _, e => by cases e
  | .tup _ :: r, _, _, _, e => by cases e
  | .lst _ :: r, _, _, _, e => by cases e
  | .rdl _ :: r, _, _, _, e => by cases e
  | .ins _ _ _ :: r, _, _, _, e => by cases e
  | .dct _ _ :: r, _, _, _, e => by cases e
def leI (ns ms : List Int) : Bool := Ob.lexAt (fun j => decide (ns.getD j 0 = ms.getD j 0)) (fun j => decide (ns.getD j 0 ≤ ms.getD j 0)) (decide (ns.length ≤ ms.length)) 0 (min ns.length ms.length)
def gtI (ns ms : List Int) : Bool := Ob.lexAt (fun j => decide (ns.getD j 0 = ms.getD j 0)) (fun j => decide (ms.getD j 0 < ns.getD j 0)) (decide (ms.length < ns.length)) 0 (min ns.length ms.length)
def geI (ns ms : List Int) : Bool := Ob.lexAt (fun j => decide (ns.getD j 0 = ms.getD j 0)) (fun j => decide (ms.getD j 0 ≤ ns.getD j 0)) (decide (ms.length ≤ ns.length)) 0 (min ns.length ms.length)
def ordB (f : Int → Int → Bool) (g : List Int → List Int → Bool) (t : Str → Str → Bool) (x y : PV) : Option Bool := match x, y with
  | .int i, .int j => some (f i j)
  | .tup xs, .tup ys => match intsOf xs, intsOf ys with
    | some ns, some ms => some (g ns ms)
    | _, _ => none
  | .str a, .str b => some (t a b)
  | _, _ => none
def ltP : PV → PV → Option Bool := ordB (fun i j => decide (i < j)) HT.lexLt fun a b => decide (a.cps.toList < b.cps.toList)
def leP : PV → PV → Option Bool := ordB (fun i j => decide (i ≤ j)) leI fun a b => !decide (b.cps.toList < a.cps.toList)
def gtP : PV → PV → Option Bool := ordB (fun i j => decide (j < i)) gtI fun a b => decide (b.cps.toList < a.cps.toList)
def geP : PV → PV → Option Bool := ordB (fun i j => decide (j ≤ i)) geI fun a b => !decide (a.cps.toList < b.cps.toList)
def retO (o : Option Bool) : EM RV := (EM.opt o).bind retB
open PySem.Spec PyProof.Rows in
theorem op_gtT (hu : X.A.units < cLine) : OpR X (compareOp .Gt) (fun x y H Q => ∃ (a b : Addr) (ns ms : List Int), x = .ref a ∧ y = .ref b ∧ SqT X.K H a (ns.map V.int) ∧ SqT X.K H b (ms.map V.int) ∧ Q (.bl (gtI ns ms)) H) := by
  intro pins s σ H x y v u Q I rx ry h
  obtain ⟨a, b, ns, ms, rfl, rfl, ha, hb, q⟩ := h
  cases rx
  cases ry
  obtain ⟨its, r1, p1, _⟩ := I.tuple ha
  obtain ⟨its2, r2, p2, _⟩ := I.tuple hb
  have i1 : IntsAre its ns := Vals.ints r1
  have i2 : IntsAre its2 ms := Vals.ints r2
  have e1 : its.toArray.size = ns.length := by rw [List.size_toArray]; exact i1.length
  have e2 : its2.toArray.size = ms.length := by rw [List.size_toArray]; exact i2.length
  have at1 : ∀ j (h1 : j < its.toArray.size), ∃ t, its.toArray[j] = .int (ns.getD j 0) t := fun j h1 => PyProof.Rows.IntsAre.int_at i1 _ _ (by simp at h1; simp [h1])
  have at2 : ∀ j (h1 : j < its2.toArray.size), ∃ t, its2.toArray[j] = .int (ms.getD j 0) t := fun j h1 => PyProof.Rows.IntsAre.int_at i2 _ _ (by simp at h1; simp [h1])
  have R := Ob.RcOp.tuples_gt (A := X.A) (s := s) (e := fun j => decide (ns.getD j 0 = ms.getD j 0)) (r := fun j => decide (ms.getD j 0 < ns.getD j 0)) p1 p2 hu (fun j h1 h2 => by
    obtain ⟨t, et⟩ := at1 j h1
    obtain ⟨t', et'⟩ := at2 j h2
    rw [et, et']
    have z : (ns.getD j 0 == ms.getD j 0) = decide (ns.getD j 0 = ms.getD j 0) := by
      by_cases q : ns.getD j 0 = ms.getD j 0
      · rw [decide_eq_true q]; exact beq_iff_eq.mpr q
      · rw [decide_eq_false q]; exact beq_eq_false_iff_ne.mpr q
    rw [← z]
    exact SeqAt.EqAt.int_int _ _ _ _) (fun j h1 h2 _ => by
    obtain ⟨t, et⟩ := at1 j h1
    obtain ⟨t', et'⟩ := at2 j h2
    rw [et, et']
    exact Ob.RcOp.gt_int _ _ _ _)
  rw [e1, e2] at R
  have z : wpAny (model X.prog X.w) X.A (compareOp .Gt (.ref a) (.ref b)) (EP X pins σ Q) X.xe s := R X.prog X.w X.xe (EP X pins σ Q) ⟨.bl _, H, I, rfl, q⟩
  exact z
open PySem.Spec PyProof.Rows in
theorem op_geT (hu : X.A.units < cLine) : OpR X (compareOp .GtE) (fun x y H Q => ∃ (a b : Addr) (ns ms : List Int), x = .ref a ∧ y = .ref b ∧ SqT X.K H a (ns.map V.int) ∧ SqT X.K H b (ms.map V.int) ∧ Q (.bl (geI ns ms)) H) := by
  intro pins s σ H x y v u Q I rx ry h
  obtain ⟨a, b, ns, ms, rfl, rfl, ha, hb, q⟩ := h
  cases rx
  cases ry
  obtain ⟨its, r1, p1, _⟩ := I.tuple ha
  obtain ⟨its2, r2, p2, _⟩ := I.tuple hb
  have i1 : IntsAre its ns := Vals.ints r1
  have i2 : IntsAre its2 ms := Vals.ints r2
  have e1 : its.toArray.size = ns.length := by rw [List.size_toArray]; exact i1.length
  have e2 : its2.toArray.size = ms.length := by rw [List.size_toArray]; exact i2.length
  have at1 : ∀ j (h1 : j < its.toArray.size), ∃ t, its.toArray[j] = .int (ns.getD j 0) t := fun j h1 => PyProof.Rows.IntsAre.int_at i1 _ _ (by simp at h1; simp [h1])
  have at2 : ∀ j (h1 : j < its2.toArray.size), ∃ t, its2.toArray[j] = .int (ms.getD j 0) t := fun j h1 => PyProof.Rows.IntsAre.int_at i2 _ _ (by simp at h1; simp [h1])
  have R := Ob.RcOp.tuples_ge (A := X.A) (s := s) (e := fun j => decide (ns.getD j 0 = ms.getD j 0)) (r := fun j => decide (ms.getD j 0 ≤ ns.getD j 0)) p1 p2 hu (fun j h1 h2 => by
    obtain ⟨t, et⟩ := at1 j h1
    obtain ⟨t', et'⟩ := at2 j h2
    rw [et, et']
    have z : (ns.getD j 0 == ms.getD j 0) = decide (ns.getD j 0 = ms.getD j 0) := by
      by_cases q : ns.getD j 0 = ms.getD j 0
      · rw [decide_eq_true q]; exact beq_iff_eq.mpr q
      · rw [decide_eq_false q]; exact beq_eq_false_iff_ne.mpr q
    rw [← z]
    exact SeqAt.EqAt.int_int _ _ _ _) (fun j h1 h2 _ => by
    obtain ⟨t, et⟩ := at1 j h1
    obtain ⟨t', et'⟩ := at2 j h2
    rw [et, et']
    exact Ob.RcOp.ge_int _ _ _ _)
  rw [e1, e2] at R
  have z : wpAny (model X.prog X.w) X.A (compareOp .GtE (.ref a) (.ref b)) (EP X pins σ Q) X.xe s := R X.prog X.w X.xe (EP X pins σ Q) ⟨.bl _, H, I, rfl, q⟩
  exact z
theorem or_lt {W : WX} (hu : X.A.units + 64 < cLine) : OpR X (compareOp .Lt) (rSem2 X.K ca W fun x y => retO (ltP x y)) := by
  intro pins s σ0 H v w u1 u2 Q I r1 r2 ⟨c, M, σ, e, x, y, S, rx, ry, h⟩
  obtain ⟨b, hb, h⟩ := RdAt.optB h
  cases x <;> cases y <;> first | (cases hb; done) | skip
  case int.int i j =>
    cases rx; cases ry; cases hb
    exact op_lt pins s σ0 H _ _ u1 u2 Q I r1 r2 ⟨i, j, rfl, rfl, h.ret S ⟨rfl, trivial⟩⟩
  case str.str i j =>
    cases rx; cases ry; cases hb
    exact op_lt_str pins s σ0 H _ _ u1 u2 Q I r1 r2 ⟨i, j, rfl, rfl, h.ret S ⟨rfl, trivial⟩⟩
  case tup.tup xs ys =>
    obtain ⟨a, vs, rfl, ha, ra⟩ := rx
    obtain ⟨b', ws, rfl, hb', rb⟩ := ry
    unfold ltP ordB at hb
    cases z1 : intsOf xs with
    | none => simp only [z1] at hb; cases hb
    | some ns =>
      cases z2 : intsOf ys with
      | none => simp only [z1, z2] at hb; cases hb
      | some ms =>
        simp only [z1, z2] at hb
        cases hb
        have := intsOf_reps ra z1
        subst this
        have := intsOf_reps rb z2
        subst this
        exact op_ltT (by omega) pins s σ0 H _ _ u1 u2 Q I r1 r2 ⟨a, b', ns, ms, rfl, rfl, Same.sqT hid_same ha, Same.sqT hid_same hb', h.ret S ⟨rfl, trivial⟩⟩
theorem or_le {W : WX} (hu : X.A.units + 64 < cLine) : OpR X (compareOp .LtE) (rSem2 X.K ca W fun x y => retO (leP x y)) := by
  intro pins s σ0 H v w u1 u2 Q I r1 r2 ⟨c, M, σ, e, x, y, S, rx, ry, h⟩
  obtain ⟨b, hb, h⟩ := RdAt.optB h
  cases x <;> cases y <;> first | (cases hb; done) | skip
  case int.int i j =>
    cases rx; cases ry; cases hb
    exact op_le pins s σ0 H _ _ u1 u2 Q I r1 r2 ⟨i, j, rfl, rfl, h.ret S ⟨rfl, trivial⟩⟩
  case str.str i j =>
    cases rx; cases ry; cases hb
    exact op_le_str pins s σ0 H _ _ u1 u2 Q I r1 r2 ⟨i, j, rfl, rfl, h.ret S ⟨rfl, trivial⟩⟩
  case tup.tup xs ys =>
    obtain ⟨a, vs, rfl, ha, ra⟩ := rx
    obtain ⟨b', ws, rfl, hb', rb⟩ := ry
    unfold leP ordB at hb
    cases z1 : intsOf xs with
    | none => simp only [z1] at hb; cases hb
    | some ns =>
      cases z2 : intsOf ys with
      | none => simp only [z1, z2] at hb; cases hb
      | some ms =>
        simp only [z1, z2] at hb
        cases hb
        have := intsOf_reps ra z1
        subst this
        have := intsOf_reps rb z2
        subst this
        exact op_leT (by omega) pins s σ0 H _ _ u1 u2 Q I r1 r2 ⟨a, b', ns, ms, rfl, rfl, Same.sqT hid_same ha, Same.sqT hid_same hb', h.ret S ⟨rfl, trivial⟩⟩
theorem or_gt {W : WX} (hu : X.A.units + 64 < cLine) : OpR X (compareOp .Gt) (rSem2 X.K ca W fun x y => retO (gtP x y)) := by
  intro pins s σ0 H v w u1 u2 Q I r1 r2 ⟨c, M, σ, e, x, y, S, rx, ry, h⟩
  obtain ⟨b, hb, h⟩ := RdAt.optB h
  cases x <;> cases y <;> first | (cases hb; done) | skip
  case int.int i j =>
    cases rx; cases ry; cases hb
    exact op_gt pins s σ0 H _ _ u1 u2 Q I r1 r2 ⟨i, j, rfl, rfl, h.ret S ⟨rfl, trivial⟩⟩
  case str.str i j =>
    cases rx; cases ry; cases hb
    exact op_gt_str pins s σ0 H _ _ u1 u2 Q I r1 r2 ⟨i, j, rfl, rfl, h.ret S ⟨rfl, trivial⟩⟩
  case tup.tup xs ys =>
    obtain ⟨a, vs, rfl, ha, ra⟩ := rx
    obtain ⟨b', ws, rfl, hb', rb⟩ := ry
    unfold gtP ordB at hb
    cases z1 : intsOf xs with
    | none => simp only [z1] at hb; cases hb
    | some ns =>
      cases z2 : intsOf ys with
      | none => simp only [z1, z2] at hb; cases hb
      | some ms =>
        simp only [z1, z2] at hb
        cases hb
        have := intsOf_reps ra z1
        subst this
        have := intsOf_reps rb z2
        subst this
        exact op_gtT (by omega) pins s σ0 H _ _ u1 u2 Q I r1 r2 ⟨a, b', ns, ms, rfl, rfl, Same.sqT hid_same ha, Same.sqT hid_same hb', h.ret S ⟨rfl, trivial⟩⟩
theorem or_ge {W : WX} (hu : X.A.units + 64 < cLine) : OpR X (compareOp .GtE) (rSem2 X.K ca W fun x y => retO (geP x y)) := by
  intro pins s σ0 H v w u1 u2 Q I r1 r2 ⟨c, M, σ, e, x, y, S, rx, ry, h⟩
  obtain ⟨b, hb, h⟩ := RdAt.optB h
  cases x <;> cases y <;> first | (cases hb; done) | skip
  case int.int i j =>
    cases rx; cases ry; cases hb
    exact op_ge pins s σ0 H _ _ u1 u2 Q I r1 r2 ⟨i, j, rfl, rfl, h.ret S ⟨rfl, trivial⟩⟩
  case str.str i j =>
    cases rx; cases ry; cases hb
    exact op_ge_str pins s σ0 H _ _ u1 u2 Q I r1 r2 ⟨i, j, rfl, rfl, h.ret S ⟨rfl, trivial⟩⟩
  case tup.tup xs ys =>
    obtain ⟨a, vs, rfl, ha, ra⟩ := rx
    obtain ⟨b', ws, rfl, hb', rb⟩ := ry
    unfold geP ordB at hb
    cases z1 : intsOf xs with
    | none => simp only [z1] at hb; cases hb
    | some ns =>
      cases z2 : intsOf ys with
      | none => simp only [z1, z2] at hb; cases hb
      | some ms =>
        simp only [z1, z2] at hb
        cases hb
        have := intsOf_reps ra z1
        subst this
        have := intsOf_reps rb z2
        subst this
        exact op_geT (by omega) pins s σ0 H _ _ u1 u2 Q I r1 r2 ⟨a, b', ns, ms, rfl, rfl, Same.sqT hid_same ha, Same.sqT hid_same hb', h.ret S ⟨rfl, trivial⟩⟩

/-! ### is -/
def isNon : PV → Bool
  | .non => true
  | _ => false
def isP (x y : PV) : Option Bool := match y with
  | .non => some (isNon x)
  | .bl b => match x with
    | .bl a => some (decide (a = b))
    | _ => none
  | _ => none
theorem isNon_v {K : PySem.W.Frag} {G H : Hp} {x : PV} {v : V} (r : RepT K ca G H x v) : decide (v = .non) = isNon x := by
  cases x with
  | non => cases r; rfl
  | bl _ => cases r; rfl
  | int _ => cases r; rfl
  | str _ => cases r; rfl
  | tup _ => obtain ⟨a, vs, rfl, _⟩ := r; rfl
  | lst _ => obtain ⟨a, vs, rfl, _⟩ := r; rfl
  | rdl _ => obtain ⟨a, vs, rfl, _⟩ := r; rfl
  | ins _ _ _ => obtain ⟨a, dx, fs, rfl, _⟩ := r; rfl
  | dct _ _ => obtain ⟨a, kvs, rfl, _⟩ := r; rfl
theorem or_is {W : WX} : OpR X (compareOp .Is) (rSem2 X.K ca W fun x y => retO (isP x y)) := by
  intro pins s σ0 H v w u1 u2 Q I r1 r2 ⟨c, M, σ, e, x, y, S, rx, ry, h⟩
  obtain ⟨b, hb, h⟩ := RdAt.optB h
  cases y <;> first | (cases hb; done) | skip
  case non =>
    cases ry; cases hb
    exact op_isN pins s σ0 H _ _ u1 u2 Q I r1 r2 ⟨rfl, by rw [isNon_v rx]; exact h.ret S ⟨rfl, trivial⟩⟩
  case bl k =>
    cases x <;> first | (cases hb; done) | skip
    case bl a =>
      cases rx; cases ry; cases hb
      exact op_is_bl pins s σ0 H _ _ u1 u2 Q I r1 r2 ⟨a, k, rfl, rfl, h.ret S ⟨rfl, trivial⟩⟩
theorem or_isnot {W : WX} : OpR X (compareOp .IsNot) (rSem2 X.K ca W fun x y => retO ((isP x y).map (!·))) := by
  intro pins s σ0 H v w u1 u2 Q I r1 r2 ⟨c, M, σ, e, x, y, S, rx, ry, h⟩
  obtain ⟨b, hb, h⟩ := RdAt.optB h
  cases y <;> first | (cases hb; done) | skip
  case non =>
    cases ry; cases hb
    exact op_notN pins s σ0 H _ _ u1 u2 Q I r1 r2 ⟨rfl, by rw [isNon_v rx]; exact h.ret S ⟨rfl, trivial⟩⟩
  case bl k =>
    cases x <;> first | (cases hb; done) | skip
    case bl a =>
      cases rx; cases ry; cases hb
      exact op_isnot_bl pins s σ0 H _ _ u1 u2 Q I r1 r2 ⟨a, k, rfl, rfl, h.ret S ⟨rfl, trivial⟩⟩
end
end QB

namespace QB
open PySem L2

/-! ### in -/
def flatP : PV → Bool
  | .non => true
  | .bl _ => true
  | .int _ => true
  | .str _ => true
  | _ => false
def inP (x y : PV) : Option Bool := match y with
  | .lst ys => match x.data, datas ys with
    | some d, some ds => if shp d && shp (.list ds) then some (ds.any fun z => PyData.eqv z d) else none
    | _, _ => none
  | .rdl ys => match x.data, datas ys with
    | some d, some ds => if shp d && shp (.list ds) then some (ds.any fun z => PyData.eqv z d) else none
    | _, _ => none
  | .tup ys => if flatP x && ys.all flatP then (match x.data, datas ys with
    | some d, some ds => some (ds.any fun z => PyData.eqv z d)
    | _, _ => none) else none
  | .str z => match x with
    | .str y => match y.cps.toList with
      | [c] => some (decide (c ∈ z.cps.toList))
      | _ => some (!(Builtin.Str.occurrences z y 0 z.length 1).isEmpty)
    | _ => none
  | _ => none
section
variable {X : Cx} {ca : Str → Addr} {K : PySem.W.Frag} {G H : Hp}
theorem flat_rep {p : PV} {v : V} (f : flatP p = true) (r : Rep K ca G p v) : flatV v = true := by
  cases p <;> first | (cases f; done) | (cases r; rfl)
theorem flats_rep : ∀ {ps : List PV} {vs : List V}, ps.all flatP = true → Reps K ca G ps vs → vs.all flatV = true
  | [], _, _, h => by cases h; rfl
  | x :: xs, _, f, h => by
    obtain ⟨v, r, rfl, h1, h2⟩ := h
    rw [List.all_cons, Bool.and_eq_true] at f
    rw [List.all_cons, flat_rep f.1 h1, flats_rep f.2 h2]
    rfl
theorem eqV_data {p q : PV} {v w : V} {d f : PyData} (hp : flatP p = true) (hq : flatP q = true) (r : Rep K ca G p v) (r' : Rep K ca G q w) (e : p.data = some d) (e' : q.data = some f) : eqV v w = PyData.eqv d f := by
  cases p <;> first | (cases hp; done) | skip
  all_goals (cases q <;> first | (cases hq; done) | skip)
  all_goals (cases r; cases r'; cases e; cases e'; first | rfl | (simp [eqV, PyData.eqv]))
theorem any_data {p : PV} {v : V} {d : PyData} (hp : flatP p = true) (r : Rep K ca G p v) (e : p.data = some d) : ∀ {ps : List PV} {vs : List V} {ds : List PyData}, ps.all flatP = true → Reps K ca G ps vs → datas ps = some ds → inV v vs = ds.any fun z => PyData.eqv z d
  | [], _, _, _, h, e => by cases h; cases e; rfl
  | x :: xs, _, ds, f, h, e' => by
    obtain ⟨w, r', rfl, h1, h2⟩ := h
    rw [List.all_cons, Bool.and_eq_true] at f
    unfold datas at e'
    cases z1 : x.data with
    | none => rw [z1] at e'; cases e'
    | some d1 =>
      cases z2 : datas xs with
      | none => rw [z1, z2] at e'; cases e'
      | some ds1 =>
        rw [z1, z2] at e'
        cases e'
        have ih := any_data hp r e f.2 h2 z2
        unfold inV at ih ⊢
        rw [List.any_cons, List.any_cons, ih, eqV_data f.1 hp h1 r z1 e]
theorem or_in {W : WX} (hu : X.A.units + 65 < cLine) (neg : Bool) : OpR X (compareOp (if neg then .NotIn else .In)) (rSem2 X.K ca W fun x y => retO ((inP x y).map fun b => if neg then !b else b)) := by
  intro pins s σ0 H v w u1 u2 Q I r1 r2 ⟨c, M, σ, e, x, y, S, rx, ry, h⟩
  obtain ⟨b, hb, h⟩ := RdAt.optB h
  cases hi : inP x y with
  | none => rw [hi] at hb; cases hb
  | some b0 =>
    rw [hi] at hb
    cases hb
    have deep : ∀ {ys : List PV} {d : PyData} {ds : List PyData} {k : Bool}, Dp X.K H w (.list ds) → x.data = some d → (if (shp d && shp (.list ds)) = true then some (ds.any fun z => PyData.eqv z d) else none) = some k → b0 = k →
        wpAny (model X.prog X.w) X.A (compareOp (if neg then .NotIn else .In) u1 u2) (EP X pins σ0 Q) X.xe s := fun {ys d ds k} hy ed hk ek => by
      cases z : (shp d && shp (.list ds)) with
      | false => rw [z] at hk; cases hk
      | true =>
        rw [z] at hk
        cases hk
        subst ek
        obtain ⟨h1, h2⟩ := Bool.and_eq_true_iff.mp z
        have hd := Rep.dp (rx.rep hid_same) ed
        cases neg with
        | false => exact op_inD hu pins s σ0 H v w u1 u2 Q I r1 r2 ⟨d, ds, hd, hy, h1, h2, h.ret S ⟨rfl, trivial⟩⟩
        | true => exact op_notInD hu pins s σ0 H v w u1 u2 Q I r1 r2 ⟨d, ds, hd, hy, h1, h2, h.ret S ⟨rfl, trivial⟩⟩
    cases y <;> first | (cases hi; done) | skip
    case lst ys =>
      unfold inP at hi
      cases z1 : x.data with
      | none => simp only [z1] at hi; cases hi
      | some d =>
        cases z2 : datas ys with
        | none => simp only [z1, z2] at hi; cases hi
        | some ds =>
          simp only [z1, z2] at hi
          refine deep (ys := ys) (Rep.dp (p := .lst ys) (ry.rep hid_same) ?_) z1 hi rfl
          unfold PV.data
          rw [z2]; rfl
    case rdl ys =>
      unfold inP at hi
      cases z1 : x.data with
      | none => simp only [z1] at hi; cases hi
      | some d =>
        cases z2 : datas ys with
        | none => simp only [z1, z2] at hi; cases hi
        | some ds =>
          simp only [z1, z2] at hi
          refine deep (ys := ys) (Rep.dp (p := .rdl ys) (ry.rep hid_same) ?_) z1 hi rfl
          unfold PV.data
          rw [z2]; rfl
    case tup ys =>
      unfold inP at hi
      dsimp only at hi
      cases z : (flatP x && ys.all flatP) with
      | false => rw [z] at hi; cases hi
      | true =>
        rw [z] at hi
        obtain ⟨f1, f2⟩ := Bool.and_eq_true_iff.mp z
        obtain ⟨a, vs, rfl, ha, ra⟩ := ry
        have rx' : Rep X.K ca H x v := rx.rep hid_same
        have ra' : Reps X.K ca H ys vs := ra.mono hid_same
        cases z1 : x.data with
        | none => simp only [z1] at hi; cases hi
        | some d =>
          cases z2 : datas ys with
          | none => simp only [z1, z2] at hi; cases hi
          | some ds =>
            simp only [z1, z2, if_true] at hi
            cases hi
            have ea := any_data f1 rx' z1 f2 ra' z2
            cases neg with
            | false => exact op_in_seq pins s σ0 H v _ u1 u2 Q I r1 r2 ⟨a, vs, rfl, .inr (Same.sqT hid_same ha), flat_rep f1 rx', flats_rep f2 ra', by rw [ea]; exact h.ret S ⟨rfl, trivial⟩⟩
            | true => exact op_notIn_seq pins s σ0 H v _ u1 u2 Q I r1 r2 ⟨a, vs, rfl, .inr (Same.sqT hid_same ha), flat_rep f1 rx', flats_rep f2 ra', by rw [ea]; exact h.ret S ⟨rfl, trivial⟩⟩
    case str z =>
      cases x <;> first | (cases hi; done) | skip
      case str y =>
        cases rx; cases ry
        have one : ∀ {c : Nat}, y.cps.toList = [c] → y = ⟨#[c]⟩ := fun {c} q => by
          obtain ⟨l⟩ := y
          have : l = #[c] := by
            have e := congrArg List.toArray q
            simpa using e
          rw [this]
        unfold inP at hi
        dsimp only at hi
        split at hi
        · rename_i cc q
          cases hi
          have ey := one q
          subst ey
          cases neg with
          | false => exact op_in_sign pins s σ0 H _ _ u1 u2 Q I r1 r2 ⟨cc, z, rfl, rfl, h.ret S ⟨rfl, trivial⟩⟩
          | true => exact op_notIn_sign pins s σ0 H _ _ u1 u2 Q I r1 r2 ⟨cc, z, rfl, rfl, h.ret S ⟨rfl, trivial⟩⟩
        · cases hi
          cases neg with
          | false => exact op_in_str pins s σ0 H _ _ u1 u2 Q I r1 r2 ⟨y, z, rfl, rfl, h.ret S ⟨rfl, trivial⟩⟩
          | true => exact op_notin_str pins s σ0 H _ _ u1 u2 Q I r1 r2 ⟨y, z, rfl, rfl, h.ret S ⟨rfl, trivial⟩⟩

/-! ### a comparison -/
def opC : CmpOp → PV → PV → EM RV
  | .Eq => opEq
  | .NotEq => opNe
  | .Lt => fun x y => retO (ltP x y)
  | .LtE => fun x y => retO (leP x y)
  | .Gt => fun x y => retO (gtP x y)
  | .GtE => fun x y => retO (geP x y)
  | .Is => fun x y => retO (isP x y)
  | .IsNot => fun x y => retO ((isP x y).map (!·))
  | .In => fun x y => retO (inP x y)
  | .NotIn => fun x y => retO ((inP x y).map (!·))
theorem or_cmp {W : WX} (hu : X.A.units + 65 < cLine) (op : CmpOp) : OpR X (compareOp op) (rSem2 X.K ca W (opC op)) := by
  cases op
  · exact or_eq (by omega)
  · exact or_ne (by omega)
  · exact or_lt (by omega)
  · exact or_le (by omega)
  · exact or_gt (by omega)
  · exact or_ge (by omega)
  · exact or_is
  · exact or_isnot
  · have h := or_in (X := X) (ca := ca) (W := W) hu false
    simp only [Bool.false_eq_true, if_false, Option.map_id'] at h
    exact h
  · have h := or_in (X := X) (ca := ca) (W := W) hu true
    simp only [if_true] at h
    exact h
theorem je_cmp {a b : Expr} {ma mb : EM Opd} {op : CmpOp} {pos : Pos} (hu : X.A.units + 65 < cLine) (hm : behindInMarks op b = false) (ha : JO X ca ma a) (hb : JO X ca mb b) : JE X ca (two ma mb (opC op)) (.Compare a [op] [b] pos) := fun W tk =>
  PE.imp (pe_cmpR (or_cmp hu op) (ha W tk) (hb W tk) hm) fun σ H Q h => two_op h
/-- the value of a test -/
def boolM (m : EM RV) : EM Bool := m.bind fun r => match r.pv with
  | .bl b => EM.ret b
  | _ => EM.bad
theorem bool_at {W : WX} {m : EM RV} {c : Fx} {M : Addr → Prop} {e : En} {σ : St} {H : Hp} {Q : Bool → Hp → Prop} (q : RdAt X.K ca c (boolM m) relB W e σ Q) (S : Sim X.K ca c M σ H e) : RdAt X.K ca (Fx.at M σ H e c.par) m (relV X.K ca) W e σ fun v H1 => ∃ k, v = .bl k ∧ Q k H1 := by
  refine RdAt.bindAt q S fun r v H1 M1 e1 S1 _ _ rr q1 => ?_
  have rp := rr.1
  cases z : r.pv with
  | bl b =>
    rw [z] at rp
    simp only [z] at q1
    exact ⟨b, rp, q1.ret S1 rfl⟩
  | _ => simp only [z] at q1; exact False.elim q1
theorem bool_op {W : WX} {m : EM RV} {σ : St} {H : Hp} {Q : Bool → Hp → Prop} (h : Rd X.K ca (boolM m) relB W σ H Q) : Rd X.K ca m (relV X.K ca) W σ H fun v H1 => ∃ k, v = .bl k ∧ Q k H1 := by
  obtain ⟨c, M, e, S, q⟩ := h
  exact ⟨_, M, e, S.here, bool_at q S⟩
theorem jt_cmp {a b : Expr} {ma mb : EM Opd} {op : CmpOp} {pos : Pos} (hu : X.A.units + 65 < cLine) (hm : behindInMarks op b = false) (ha : JO X ca ma a) (hb : JO X ca mb b) : JT X ca (boolM (two ma mb (opC op))) (.Compare a [op] [b] pos) := fun W tk =>
  PT.imp (pt_cmpR (or_cmp hu op) (ha W tk) (hb W tk) hm) fun σ H Q h => two_op (bool_op h)
/-- any value as a test -/
def truP : PV → Option Bool
  | .non => some false
  | .bl b => some b
  | .int i => some (i != 0)
  | .str x => if szOk x.length then some (x.length != 0) else none
  | .tup xs => some (!xs.isEmpty)
  | .lst xs => some (!xs.isEmpty)
  | .rdl xs => some (!xs.isEmpty)
  | .dct ks _ => some (!ks.isEmpty)
  | .ins _ _ _ => none
theorem isEmpty_len {α β : Type} {xs : List α} {ys : List β} (h : ys.length = xs.length) : (!xs.isEmpty) = !ys.isEmpty := by
  cases xs <;> cases ys <;> first | rfl | cases h
theorem tru_v {p : PV} {v : V} {k : Bool} (r : Rep K ca H p v) (h : truP p = some k) : TruV K v H k := by
  cases p with
  | non => cases r; cases h; rfl
  | bl b => cases r; cases h; rfl
  | int i => cases r; cases h; rfl
  | str x =>
    cases r
    unfold truP at h
    cases z : szOk x.length with
    | false => simp [z] at h
    | true =>
      simp only [z, if_true] at h
      cases h
      refine ⟨of_decide_eq_true z, ?_⟩
      by_cases q : x.length = 0
      · simp [q]
      · have : ((x.length : Int) != 0) = true := by simp; omega
        rw [this]; simp [q]
  | tup xs => obtain ⟨a, vs, rfl, q, rr⟩ := r; cases h; exact .inr (.inl ⟨vs, q, isEmpty_len rr.length⟩)
  | lst xs => obtain ⟨a, vs, rfl, q, rr⟩ := r; cases h; exact .inl ⟨vs, SqL.of q, isEmpty_len rr.length⟩
  | rdl xs => obtain ⟨a, vs, rfl, q, rr⟩ := r; cases h; exact .inl ⟨vs, q, isEmpty_len rr.length⟩
  | ins _ _ _ => cases h
  | dct ks xs =>
    obtain ⟨a, kvs, rfl, q, e, rr⟩ := r
    cases h
    refine .inr (.inr ⟨kvs, q, isEmpty_len ?_⟩)
    rw [← e, List.length_map]
def truM (m : EM Opd) : EM Bool := one m fun p => EM.opt (truP p)
theorem jt_tru {a : Expr} {m : EM Opd} (ha : JO X ca m a) (he : ∀ whole, isTrue a X.env whole = (do let v ← whole; standAt a.pos; holding [v] (truthy v))) : JT X ca (truM m) a := fun W tk =>
  PT.imp (pt_truth (ha W tk) he) fun σ H Q ⟨c, M, e, S, q⟩ => RdAt.bind q S fun o v H1 M1 e1 S1 _ _ r1 q1 => by
    obtain ⟨p, _, rp, q2⟩ := q1.lookM S1 r1
    obtain ⟨k, hk, q3⟩ := q2.opt
    exact ⟨k, tru_v (rp.rep hid_same) hk, q3.ret S1 rfl⟩
/-- and, or, not -/
def andT (a b : EM Bool) : EM Bool := a.bind fun c => if c then b else EM.ret false
def orT (a b : EM Bool) : EM Bool := a.bind fun c => if c then EM.ret true else b
def notT (a : EM Bool) : EM Bool := a.bind fun c => EM.ret (!c)
theorem jw_and1 {a : Expr} {m : EM Bool} {pos : Pos} (h : JT X ca m a) : JW X ca m (.BoolOp .And [a] pos) := fun W tk => pw_and1 (h W tk)
theorem jw_or1 {a : Expr} {m : EM Bool} {pos : Pos} (h : JT X ca m a) : JW X ca m (.BoolOp .Or [a] pos) := fun W tk => pw_or1 (h W tk)
theorem jw_and {a b : Expr} {rest : List Expr} {m n : EM Bool} {pos : Pos} (h : JT X ca m a) (h' : JW X ca n (.BoolOp .And (b :: rest) pos)) : JW X ca (andT m n) (.BoolOp .And (a :: b :: rest) pos) := fun W tk =>
  PW.imp (pw_and (h W tk) (h' W tk)) fun σ H Q ⟨c, M, e, S, q⟩ => RdAt.bind q S fun a b H1 M1 e1 S1 _ _ r1 q1 => by
    cases r1
    cases a with
    | true => exact ⟨c, M1, e1, S1, q1⟩
    | false => exact q1.ret S1 rfl
theorem jw_or {a b : Expr} {rest : List Expr} {m n : EM Bool} {pos : Pos} (h : JT X ca m a) (h' : JW X ca n (.BoolOp .Or (b :: rest) pos)) : JW X ca (orT m n) (.BoolOp .Or (a :: b :: rest) pos) := fun W tk =>
  PW.imp (pw_or (h W tk) (h' W tk)) fun σ H Q ⟨c, M, e, S, q⟩ => RdAt.bind q S fun a b H1 M1 e1 S1 _ _ r1 q1 => by
    cases r1
    cases a with
    | false => exact ⟨c, M1, e1, S1, q1⟩
    | true => exact q1.ret S1 rfl
theorem jt_of_w {a : Expr} {m : EM Bool} (h : JW X ca m a) : JT X ca m a := fun W tk => (h W tk).pt
theorem jt_not {a : Expr} {m : EM Bool} {pos : Pos} (h : JT X ca m a) : JT X ca (notT m) (.UnaryOp .Not a pos) := fun W tk =>
  PT.imp (pt_not (h W tk)) fun σ H Q ⟨c, M, e, S, q⟩ => RdAt.bind q S fun a b H1 M1 e1 S1 _ _ r1 q1 => by
    cases r1
    exact q1.ret S1 rfl
/-- as values: all but the last are True or False -/
def andV (a b : EM RV) : EM RV := (boolM a).bind fun c => if c then b else EM.ret (.val (.bl false))
def orV (a b : EM RV) : EM RV := (boolM a).bind fun c => if c then EM.ret (.val (.bl true)) else b
theorem je_one {a : Expr} {op} {m : EM RV} {pos : Pos} (h : JE X ca m a) : JE X ca m (.BoolOp op [a] pos) := fun W tk => pe_one (h W tk)
theorem je_and {a b : Expr} {rest : List Expr} {m n : EM RV} {pos : Pos} (h : JE X ca m a) (h' : JE X ca n (.BoolOp .And (b :: rest) pos)) : JE X ca (andV m n) (.BoolOp .And (a :: b :: rest) pos) := fun W tk =>
  PE.imp (pe_and (h W tk) (h' W tk)) fun σ H Q ⟨c, M, e, S, q⟩ => bool_op (RdAt.bind q S fun a b H1 M1 e1 S1 _ _ r1 q1 => by
    cases r1
    cases a with
    | true => exact ⟨c, M1, e1, S1, q1⟩
    | false => exact q1.ret S1 ⟨rfl, trivial⟩)
theorem je_or {a b : Expr} {rest : List Expr} {m n : EM RV} {pos : Pos} (h : JE X ca m a) (h' : JE X ca n (.BoolOp .Or (b :: rest) pos)) : JE X ca (orV m n) (.BoolOp .Or (a :: b :: rest) pos) := fun W tk =>
  PE.imp (pe_or (h W tk) (h' W tk)) fun σ H Q ⟨c, M, e, S, q⟩ => bool_op (RdAt.bind q S fun a b H1 M1 e1 S1 _ _ r1 q1 => by
    cases r1
    cases a with
    | false => exact ⟨c, M1, e1, S1, q1⟩
    | true => exact q1.ret S1 ⟨rfl, trivial⟩)
def notV (m : EM Opd) : EM RV := (truM m).bind fun b => EM.ret (.val (.bl (!b)))
theorem je_not {a : Expr} {m : EM Opd} {pos : Pos} (ha : JO X ca m a) : JE X ca (notV m) (.UnaryOp .Not a pos) := fun W tk =>
  PE.imp (pe_notT (ha W tk)) fun σ H Q ⟨c, M, e, S, q⟩ => by
    have q0 : RdAt X.K ca c (m.bind fun o => ((lookM o).bind fun p => EM.opt (truP p)).bind fun b => EM.ret (.val (.bl (!b)))) (relV X.K ca) W e σ Q := by
      have : notV m = m.bind fun o => ((lookM o).bind fun p => EM.opt (truP p)).bind fun b => EM.ret (.val (.bl (!b))) := by
        funext e
        unfold notV truM one EM.bind
        cases m e <;> rfl
      rw [← this]
      exact q
    exact RdAt.bind q0 S fun o v H1 M1 e1 S1 _ _ r1 q1 => by
      have q1' : RdAt X.K ca c ((lookM o).bind fun p => (EM.opt (truP p)).bind fun b => EM.ret (.val (.bl (!b)))) (relV X.K ca) W e1 σ Q := by
        have : ((lookM o).bind fun p => (EM.opt (truP p)).bind fun b => EM.ret (RV.val (.bl (!b)))) = (((lookM o).bind fun p => EM.opt (truP p)).bind fun b => EM.ret (RV.val (.bl (!b)))) := by
          funext e
          unfold EM.bind
          cases lookM o e <;> rfl
        rw [this]
        exact q1
      obtain ⟨p, _, rp, q2⟩ := q1'.lookM S1 r1
      obtain ⟨k, hk, q3⟩ := RdAt.optB q2
      exact ⟨k, tru_v (rp.rep hid_same) hk, q3.ret S1 ⟨rfl, trivial⟩⟩
/-- a if t else b -/
def iteM {α : Type} (t : EM Bool) (a b : EM α) : EM α := t.bind fun c => if c then a else b
theorem je_if {t a b : Expr} {mt : EM Bool} {ma mb : EM RV} {pos : Pos} (ht : JT X ca mt t) (ha : JE X ca ma a) (hb : JE X ca mb b) : JE X ca (iteM mt ma mb) (.IfExp t a b pos) := fun W tk =>
  PE.imp (pe_ifExp (ht W tk) (ha W tk) (hb W tk)) fun σ H Q ⟨c, M, e, S, q⟩ => RdAt.bind q S fun a b H1 M1 e1 S1 _ _ r1 q1 => by
    cases r1
    cases a with
    | true => exact ⟨c, M1, e1, S1, q1⟩
    | false => exact ⟨c, M1, e1, S1, q1⟩
end
end QB

namespace QB
open PySem L2
section
variable {X : Cx} {ca : Str → Addr} {K : PySem.W.Frag} {G H : Hp}

/-! ### a chain of two comparisons -/
def chainM (ma mb mc : EM Opd) (op op' : CmpOp) : EM RV := ma.bind fun a => mb.bind fun b => (lookM a).bind fun x => (lookM b).bind fun y => (boolM (opC op x y)).bind fun k =>
  if k then mc.bind fun d => (lookM b).bind fun y => (lookM d).bind fun z => opC op' y z else EM.ret (.val (.bl false))
theorem chain_op {W : WX} {ma mb mc : EM Opd} {op op' : CmpOp} {σ : St} {H : Hp} {Q : VK} (h : Rd X.K ca (chainM ma mb mc op op') (relV X.K ca) W σ H Q) :
    tChain (rSem2 X.K ca W (opC op)) (rSem2 X.K ca W (opC op')) (Rd X.K ca ma (relO X.K ca) W) (Rd X.K ca mb (relO X.K ca) W) (Rd X.K ca mc (relO X.K ca) W) σ H Q := by
  obtain ⟨c, M, e, S, q⟩ := h
  refine RdAt.bind q S fun a v H1 M1 e1 S1 _ _ r1 q1 => ?_
  refine RdAt.bind q1 S1 fun b w H2 M2 e2 S2 sm _ r2 q2 => ?_
  obtain ⟨x, _, rx, q3⟩ := q2.lookM (c' := c) (e' := e2) S2 (relO.mono r1 sm)
  obtain ⟨y, _, ry, q4⟩ := q3.lookM S2 r2
  have q5 := RdAt.bindAt (rel1 := relB) (P := fun k H3 => if k = true then Rd X.K ca mc (relO X.K ca) W σ H3 fun u H4 => rSem2 X.K ca W (opC op') w u H4 Q else Q (.bl false) H3) q4 S2 fun k k' H3 M3 e3 S3 sm3 _ r3 q4 => by
    cases r3
    cases k with
    | false => exact q4.ret S3 ⟨rfl, trivial⟩
    | true =>
      refine RdAt.bind q4 S3 fun d u H4 M4 e4 S4 sm4 _ r4 q5 => ?_
      obtain ⟨y', _, ry, q6⟩ := q5.lookM (c' := c) (e' := e4) S4 (relO.mono (relO.mono (c' := c) (e' := e3) r2 sm3) sm4)
      obtain ⟨z, _, rz, q7⟩ := q6.lookM S4 r4
      exact ⟨c, M4, σ, e4, y', z, S4, ry, rz, q7⟩
  exact ⟨_, M2, σ, e2, x, y, S2.here.here, rx, ry, bool_at q5 S2.here⟩
theorem je_chain {a b d : Expr} {ma mb mc : EM Opd} {op op' : CmpOp} {pos : Pos} (hu : X.A.units + 65 < cLine) (hm : lastMarks [op, op'] [b, d] = false) (ha : JO X ca ma a) (hb : JO X ca mb b) (hc : JO X ca mc d) :
    JE X ca (chainM ma mb mc op op') (.Compare a [op, op'] [b, d] pos) := fun W tk =>
  PE.imp (pe_chain (or_cmp hu op) (or_cmp hu op') (ha W tk) (hb W tk) (hc W tk) hm) fun σ H Q h => chain_op h
theorem jt_chain {a b d : Expr} {ma mb mc : EM Opd} {op op' : CmpOp} {pos : Pos} (hu : X.A.units + 65 < cLine) (hm : lastMarks [op, op'] [b, d] = false) (ha : JO X ca ma a) (hb : JO X ca mb b) (hc : JO X ca mc d) :
    JT X ca (boolM (chainM ma mb mc op op')) (.Compare a [op, op'] [b, d] pos) := fun W tk =>
  PT.imp (pt_chain (or_cmp hu op) (or_cmp hu op') (ha W tk) (hb W tk) (hc W tk) hm) fun σ H Q h => chain_op (bool_op h)

/-! ### subscripts -/
def isSlice : Expr → Bool
  | .Slice _ _ _ _ => true
  | _ => false
theorem plainIx {b : Expr} (h : isSlice b = false) : PlainIx b := by
  intro o i
  cases b <;> first | rfl | cases h
theorem atI_reps {ps : List PV} {vs : List V} {i : Int} {p : PV} (h : Reps K ca G ps vs) (e : atI ps i = some p) : ∃ v, atI vs i = some v ∧ Rep K ca G p v := by
  unfold atI at e ⊢
  rw [h.length]
  cases z : ixN ps.length i with
  | none => rw [z] at e; cases e
  | some j =>
    rw [z] at e
    obtain ⟨v, e1, r⟩ := h.get (show ps[j]? = some p from e)
    exact ⟨v, e1, r⟩
def ixP : PV → PV → Option PV
  | .tup xs, .int i => atI xs i
  | .lst xs, .int i => atI xs i
  | .rdl xs, .int i => atI xs i
  | .str z, .int i => if szOk z.length then (atI z.cps.toList i).map fun c => .str ⟨#[c]⟩ else none
  | _, _ => none
def retP (o : Option PV) : EM RV := (EM.opt o).bind fun p => EM.ret (.val p)
theorem ir_ix {W : WX} : IxR X (rSem2 X.K ca W fun x y => retP (ixP x y)) := by
  intro val sl pins s σ0 H v w u1 u2 Q I r1 r2 ⟨c, M, σ, e, x, y, S, rx, ry, h⟩ hsub
  obtain ⟨b, hb, h'⟩ := RdAt.optB h
  clear h
  cases x <;> cases y <;> first | (cases hb; done) | skip
  case tup.int xs i =>
    obtain ⟨a, vs, rfl, ha, ra⟩ := rx
    cases ry
    obtain ⟨v, e1, r⟩ := atI_reps ra hb
    exact ix_tup val sl pins s σ0 H _ _ u1 u2 Q I r1 r2 ⟨a, vs, i, v, rfl, rfl, Same.sqT hid_same ha, e1, h'.ret S ⟨r, trivial⟩⟩ hsub
  case lst.int xs i =>
    obtain ⟨a, vs, rfl, ha, ra⟩ := rx
    cases ry
    obtain ⟨v, e1, r⟩ := atI_reps ra hb
    exact ix_list val sl pins s σ0 H _ _ u1 u2 Q I r1 r2 ⟨a, vs, i, v, rfl, rfl, SqL.of ha, e1, h'.ret S ⟨r, trivial⟩⟩ hsub
  case rdl.int xs i =>
    obtain ⟨a, vs, rfl, ha, ra⟩ := rx
    cases ry
    obtain ⟨v, e1, r⟩ := atI_reps ra hb
    exact ix_list val sl pins s σ0 H _ _ u1 u2 Q I r1 r2 ⟨a, vs, i, v, rfl, rfl, Same.seq hid_same ha, e1, h'.ret S ⟨r, trivial⟩⟩ hsub
  case str.int z i =>
    cases rx; cases ry
    unfold ixP at hb
    cases q : szOk z.length with
    | false => simp [q] at hb
    | true =>
      simp only [q, if_true] at hb
      cases qa : atI z.cps.toList i with
      | none => rw [qa] at hb; cases hb
      | some cc =>
        rw [qa] at hb
        cases hb
        exact ix_str val sl pins s σ0 H _ _ u1 u2 Q I r1 r2 ⟨z, i, cc, rfl, rfl, of_decide_eq_true q, qa, h'.ret S ⟨rfl, trivial⟩⟩ hsub
def ixM (ma mb : EM Opd) : EM RV := two ma mb fun x y => retP (ixP x y)
theorem je_ix {a b : Expr} {ma mb : EM Opd} {pos : Pos} (hs : isSlice b = false) (ha : JO X ca ma a) (hb : JO X ca mb b) : JE X ca (ixM ma mb) (.Subscript a b pos) := fun W tk =>
  PE.imp (pe_ix ir_ix (ha W tk) (hb W tk) (plainIx hs)) fun σ H Q h => two_op h

/-! ### built-ins -/
def rSemN (K : PySem.W.Frag) (ca : Str → Addr) (W : WX) (f : List PV → EM RV) : List V → Hp → VK → Prop := fun vs H Q => ∃ c M σ e ps, Sim K ca c M σ H e ∧ Paired (fun p v => RepT K ca (hid H M) H p v) ps vs ∧ RdAt K ca c (f ps) (relV K ca) W e σ Q
def bltM (ms : EM (List Opd)) (f : List PV → EM RV) : EM RV := ms.bind fun os => (looksM os).bind fun ps => f ps
theorem blt_op {W : WX} {ms : EM (List Opd)} {f : List PV → EM RV} {σ : St} {H : Hp} {Q : VK} (h : Rd X.K ca (bltM ms f) (relV X.K ca) W σ H Q) : tCB (rSemN X.K ca W f) (Rd X.K ca ms (relOs X.K ca) W) σ H Q := by
  obtain ⟨c, M, e, S, q⟩ := h
  refine RdAt.bind q S fun a v H1 M1 e1 S1 _ _ r1 q1 => ?_
  obtain ⟨ps, _, rp, q2⟩ := q1.looksM S1 r1
  exact ⟨c, M1, σ, e1, ps, S1, rp, q2⟩
def noStars (es : List Expr) : Bool := es.all fun e => !isStar e
theorem noStars_any {env : Env} {pos : Pos} : ∀ {es : List Expr}, noStars es = true → (backTo pos (starEach es env)).any (·.1) = false
  | [], _ => rfl
  | e :: es, h => by
    unfold noStars at h
    rw [List.all_cons, Bool.and_eq_true] at h
    rw [star_cons (by simpa using h.1)]
    show (false || (backTo pos (starEach es env)).any (·.1)) = false
    rw [noStars_any (es := es) h.2]
    rfl
theorem je_blt {x : Str} {id : String} {e : Expr} {es : List Expr} {ms : EM (List Opd)} {f : List PV → EM RV} {p pos : Pos} (hc : ∀ W, CallR X (.builtin id) (rSemN X.K ca W f)) (hg : Gl X x) (hm : X.mg x = none) (hv : bootBuiltins x = some (.builtin id))
    (hn : x ≠ "__name__") (hd : (x == ("__debug__" : Str)) = false) (hs : noStars (e :: es) = true) (h : JA X ca ms (e :: es)) : JE X ca (bltM ms f) (.Call (.Name x p) (e :: es) [] pos) := fun W tk => by
  have h0 := hs
  unfold noStars at h0
  rw [List.all_cons, Bool.and_eq_true] at h0
  exact PE.imp (pe_callB (hc W) hg hm hv (h W tk) hn hd (star_cons (by simpa using h0.1)) (noStars_any h0.2)) fun σ H Q h => blt_op h
theorem je_bty {x : Str} {id : String} {e : Expr} {es : List Expr} {ms : EM (List Opd)} {f : List PV → EM RV} {p pos : Pos} (hc : ∀ W, CallR X (.type id) (rSemN X.K ca W f)) (hg : Gl X x) (hm : X.mg x = none) (hv : bootBuiltins x = some (.type id))
    (hn : x ≠ "__name__") (hd : (x == ("__debug__" : Str)) = false) (hs : noStars (e :: es) = true) (h : JA X ca ms (e :: es)) : JE X ca (bltM ms f) (.Call (.Name x p) (e :: es) [] pos) := fun W tk => by
  have h0 := hs
  unfold noStars at h0
  rw [List.all_cons, Bool.and_eq_true] at h0
  exact PE.imp (pe_callTy (hc W) hg hm hv (h W tk) hn hd (star_cons (by simpa using h0.1)) (noStars_any h0.2)) fun σ H Q h => blt_op h

def bLen : List PV → EM RV
  | [.str x] => if szOk x.length then EM.ret (.val (.int x.length)) else EM.bad
  | [.tup xs] => EM.ret (.val (.int xs.length))
  | [.lst xs] => EM.ret (.val (.int xs.length))
  | [.rdl xs] => EM.ret (.val (.int xs.length))
  | _ => EM.bad
theorem pair1 {α β : Type} {R : α → β → Prop} {a : α} {vs : List β} (h : Paired R [a] vs) : ∃ v, vs = [v] ∧ R a v := by
  cases h with
  | cons r t => cases t; exact ⟨_, rfl, r⟩
theorem pair2 {α β : Type} {R : α → β → Prop} {a b : α} {vs : List β} (h : Paired R [a, b] vs) : ∃ v w, vs = [v, w] ∧ R a v ∧ R b w := by
  cases h with
  | cons r t => obtain ⟨w, rfl, r'⟩ := pair1 t; exact ⟨_, w, rfl, r, r'⟩
theorem cs_len (W : WX) : CallR X (.builtin "len") (rSemN X.K ca W bLen) := by
  intro pins s σ0 H vs us Q I r ⟨c, M, σ, e, ps, S, rp, h⟩
  match ps, h with
  | [], h => exact False.elim h
  | p :: _ :: _, h => exact False.elim (by cases p <;> exact h)
  | [p], h =>
    obtain ⟨v, rfl, rv⟩ := pair1 rp
    cases p <;> first | exact False.elim h | skip
    case str x =>
      cases rv
      obtain ⟨hz, h⟩ := RdAt.ite h
      exact call_len pins s σ0 H _ us Q I r ⟨_, _, rfl, ⟨of_decide_eq_true hz, rfl⟩, h.ret S ⟨rfl, trivial⟩⟩
    case tup xs =>
      obtain ⟨a, ws, rfl, ha, ra⟩ := rv
      refine call_len pins s σ0 H _ us Q I r ⟨_, _, rfl, .inr ⟨ws, Same.sqT hid_same ha, rfl⟩, h.ret S ⟨?_, trivial⟩⟩
      rw [ra.length]; rfl
    case lst xs =>
      obtain ⟨a, ws, rfl, ha, ra⟩ := rv
      refine call_len pins s σ0 H _ us Q I r ⟨_, _, rfl, .inl ⟨ws, SqL.of ha, rfl⟩, h.ret S ⟨?_, trivial⟩⟩
      rw [ra.length]; rfl
    case rdl xs =>
      obtain ⟨a, ws, rfl, ha, ra⟩ := rv
      refine call_len pins s σ0 H _ us Q I r ⟨_, _, rfl, .inl ⟨ws, Same.seq hid_same ha, rfl⟩, h.ret S ⟨?_, trivial⟩⟩
      rw [ra.length]; rfl
def bAbs : List PV → EM RV
  | [.int i] => EM.ret (.val (.int (if i < 0 then -i else i)))
  | _ => EM.bad
theorem cs_abs (W : WX) : CallR X (.builtin "abs") (rSemN X.K ca W bAbs) := by
  intro pins s σ0 H vs us Q I r ⟨c, M, σ, e, ps, S, rp, h⟩
  match ps, h with
  | [], h => exact False.elim h
  | p :: _ :: _, h => exact False.elim (by cases p <;> exact h)
  | [p], h =>
    obtain ⟨v, rfl, rv⟩ := pair1 rp
    cases p <;> first | exact False.elim h | skip
    case int i =>
      cases rv
      exact call_abs pins s σ0 H _ us Q I r ⟨i, rfl, h.ret S ⟨rfl, trivial⟩⟩
def bInt : List PV → EM RV
  | [.int i] => EM.ret (.val (.int i))
  | [.bl b] => EM.ret (.val (.int (if b then 1 else 0)))
  | _ => EM.bad
theorem cs_int (W : WX) : CallR X (.type "int") (rSemN X.K ca W bInt) := by
  intro pins s σ0 H vs us Q I r ⟨c, M, σ, e, ps, S, rp, h⟩
  match ps, h with
  | [], h => exact False.elim h
  | p :: _ :: _, h => exact False.elim (by cases p <;> exact h)
  | [p], h =>
    obtain ⟨v, rfl, rv⟩ := pair1 rp
    cases p <;> first | exact False.elim h | skip
    case int i =>
      cases rv
      exact call_int1 pins s σ0 H _ us Q I r (.inl ⟨i, rfl, h.ret S ⟨rfl, trivial⟩⟩)
    case bl i =>
      cases rv
      exact call_int1 pins s σ0 H _ us Q I r (.inr ⟨i, rfl, h.ret S ⟨rfl, trivial⟩⟩)
def bMax : List PV → EM RV
  | [.int i, .int j] => EM.ret (.val (.int (if j > i then j else i)))
  | _ => EM.bad
def bMin : List PV → EM RV
  | [.int i, .int j] => EM.ret (.val (.int (if j < i then j else i)))
  | _ => EM.bad
theorem cs_max (hc : X.calm = true) (W : WX) : CallR X (.builtin "max") (rSemN X.K ca W bMax) := by
  intro pins s σ0 H vs us Q I r ⟨c, M, σ, e, ps, S, rp, h⟩
  match ps, h with
  | [], h => exact False.elim h
  | [p], h => exact False.elim (by cases p <;> exact h)
  | p :: q :: _ :: _, h => exact False.elim (by cases p <;> cases q <;> exact h)
  | [p, q], h =>
    obtain ⟨v, w, rfl, rv, rw⟩ := pair2 rp
    cases p <;> cases q <;> first | exact False.elim h | skip
    case int.int i j =>
      cases rv; cases rw
      exact call_max2 hc pins s σ0 H _ us Q I r ⟨i, j, rfl, h.ret S ⟨rfl, trivial⟩⟩
theorem cs_min (hc : X.calm = true) (W : WX) : CallR X (.builtin "min") (rSemN X.K ca W bMin) := by
  intro pins s σ0 H vs us Q I r ⟨c, M, σ, e, ps, S, rp, h⟩
  match ps, h with
  | [], h => exact False.elim h
  | [p], h => exact False.elim (by cases p <;> exact h)
  | p :: q :: _ :: _, h => exact False.elim (by cases p <;> cases q <;> exact h)
  | [p, q], h =>
    obtain ⟨v, w, rfl, rv, rw⟩ := pair2 rp
    cases p <;> cases q <;> first | exact False.elim h | skip
    case int.int i j =>
      cases rv; cases rw
      exact call_min2 hc pins s σ0 H _ us Q I r ⟨i, j, rfl, h.ret S ⟨rfl, trivial⟩⟩
def bList : List PV → EM RV
  | [.lst xs] => EM.ret (.own (.lst xs))
  | [.rdl xs] => EM.ret (.own (.lst xs))
  | [.tup xs] => EM.ret (.own (.lst xs))
  | _ => EM.bad
theorem cs_list (W : WX) : CallR X (.type "list") (rSemN X.K ca W bList) := by
  intro pins s σ0 H vs us Q I r ⟨c, M, σ, e, ps, S, rp, h⟩
  match ps, h with
  | [], h => exact False.elim h
  | p :: _ :: _, h => exact False.elim (by cases p <;> exact h)
  | [p], h =>
    obtain ⟨v, rfl, rv⟩ := pair1 rp
    cases p <;> first | exact False.elim h | skip
    case lst xs =>
      obtain ⟨a, ws, rfl, ha, ra⟩ := rv
      exact call_list_of pins s σ0 H _ us Q I r ⟨a, ws, rfl, .inl (SqL.of ha), fun l hl => h.ret (S.alloc hl) (relV.newL S hl ra)⟩
    case rdl xs =>
      obtain ⟨a, ws, rfl, ha, ra⟩ := rv
      exact call_list_of pins s σ0 H _ us Q I r ⟨a, ws, rfl, .inl (Same.seq hid_same ha), fun l hl => h.ret (S.alloc hl) (relV.newL S hl ra)⟩
    case tup xs =>
      obtain ⟨a, ws, rfl, ha, ra⟩ := rv
      exact call_list_of pins s σ0 H _ us Q I r ⟨a, ws, rfl, .inr (Same.sqT hid_same ha), fun l hl => h.ret (S.alloc hl) (relV.newL S hl ra)⟩
def bTuple : List PV → EM RV
  | [.lst xs] => EM.ret (.val (.tup xs))
  | [.rdl xs] => EM.ret (.val (.tup xs))
  | [.tup xs] => EM.ret (.val (.tup xs))
  | _ => EM.bad
theorem cs_tuple (W : WX) : CallR X (.type "tuple") (rSemN X.K ca W bTuple) := by
  intro pins s σ0 H vs us Q I r ⟨c, M, σ, e, ps, S, rp, h⟩
  match ps, h with
  | [], h => exact False.elim h
  | p :: _ :: _, h => exact False.elim (by cases p <;> exact h)
  | [p], h =>
    obtain ⟨v, rfl, rv⟩ := pair1 rp
    cases p <;> first | exact False.elim h | skip
    case lst xs =>
      obtain ⟨a, ws, rfl, ha, ra⟩ := rv
      exact call_tuple_of pins s σ0 H _ us Q I r ⟨a, ws, rfl, .inl ⟨SqL.of ha, fun l hl => h.ret (S.alloc hl) (relV.newT S hl ra)⟩⟩
    case rdl xs =>
      obtain ⟨a, ws, rfl, ha, ra⟩ := rv
      exact call_tuple_of pins s σ0 H _ us Q I r ⟨a, ws, rfl, .inl ⟨Same.seq hid_same ha, fun l hl => h.ret (S.alloc hl) (relV.newT S hl ra)⟩⟩
    case tup xs =>
      obtain ⟨a, ws, rfl, ha, ra⟩ := rv
      exact call_tuple_of pins s σ0 H _ us Q I r ⟨a, ws, rfl, .inr ⟨Same.sqT hid_same ha, h.ret S ⟨⟨a, ws, rfl, ha, ra⟩, trivial⟩⟩⟩
/-- any, all of a list of truth values -/
def blsOf : List PV → Option (List Bool)
  | [] => some []
  | .bl b :: r => (blsOf r).map (b :: ·)
  | _ :: _ => none
theorem blsOf_reps : ∀ {ps : List PV} {vs : List V} {ns : List Bool}, Reps K ca G ps vs → blsOf ps = some ns → vs = ns.map V.bl
  | [], _, _, h, e => by cases h; cases e; rfl
  | p :: r, _, ns, h, e => by
    obtain ⟨v, r', rfl, h1, h2⟩ := h
    cases p <;> first | (cases e; done) | skip
    case bl i =>
      unfold blsOf at e
      cases z : blsOf r with
      | none => rw [z] at e; cases e
      | some ms =>
        rw [z] at e
        cases e
        cases h1
        rw [blsOf_reps h2 z]
        rfl
def bAny : List PV → EM RV
  | [.lst xs] => (EM.opt (blsOf xs)).bind fun bs => retB (bs.any id)
  | _ => EM.bad
def bAll : List PV → EM RV
  | [.lst xs] => (EM.opt (blsOf xs)).bind fun bs => retB (bs.all id)
  | _ => EM.bad
theorem cs_any (hc : X.calm = true) (W : WX) : CallR X (.builtin "any") (rSemN X.K ca W bAny) := by
  intro pins s σ0 H vs us Q I r ⟨c, M, σ, e, ps, S, rp, h⟩
  match ps, h with
  | [], h => exact False.elim h
  | p :: _ :: _, h => exact False.elim (by cases p <;> exact h)
  | [p], h =>
    obtain ⟨v, rfl, rv⟩ := pair1 rp
    cases p <;> first | exact False.elim h | skip
    case lst xs =>
      obtain ⟨a, ws, rfl, ha, ra⟩ := rv
      obtain ⟨bs, eb, h⟩ := RdAt.optB h
      have := blsOf_reps ra eb
      subst this
      exact cr_any hc pins s σ0 H _ us Q I r ⟨a, bs, rfl, SqL.of ha, h.ret S ⟨rfl, trivial⟩⟩
theorem cs_all (hc : X.calm = true) (W : WX) : CallR X (.builtin "all") (rSemN X.K ca W bAll) := by
  intro pins s σ0 H vs us Q I r ⟨c, M, σ, e, ps, S, rp, h⟩
  match ps, h with
  | [], h => exact False.elim h
  | p :: _ :: _, h => exact False.elim (by cases p <;> exact h)
  | [p], h =>
    obtain ⟨v, rfl, rv⟩ := pair1 rp
    cases p <;> first | exact False.elim h | skip
    case lst xs =>
      obtain ⟨a, ws, rfl, ha, ra⟩ := rv
      obtain ⟨bs, eb, h⟩ := RdAt.optB h
      have := blsOf_reps ra eb
      subst this
      exact cr_all hc pins s σ0 H _ us Q I r ⟨a, bs, rfl, SqL.of ha, h.ret S ⟨rfl, trivial⟩⟩
/-- sorted of whole numbers -/
def sortI (ns : List Int) : List Int := ns.mergeSort fun a b => decide (a ≤ b)
theorem sortI_perm (ns : List Int) : (sortI ns).Perm ns := List.mergeSort_perm ns _
theorem sortI_le (ns : List Int) : (sortI ns).Pairwise (· ≤ ·) := by
  have h := List.pairwise_mergeSort (le := fun a b : Int => decide (a ≤ b)) (fun a b c h1 h2 => by simp at *; omega) (fun a b => by simp; omega) ns
  exact h.imp fun h => of_decide_eq_true h
theorem sortI_uniq {ns ms : List Int} (p : ms.Perm ns) (s : ms.Pairwise (· ≤ ·)) : ms = sortI ns :=
  (p.trans (sortI_perm ns).symm).eq_of_pairwise (fun a b _ _ h1 h2 => by omega) s (sortI_le ns)
theorem intsReps (ns : List Int) : Reps K ca G (ns.map PV.int) (ns.map V.int) := by
  induction ns with
  | nil => rfl
  | cons n ns ih => exact ⟨_, _, rfl, rfl, ih⟩
def bSorted : List PV → EM RV
  | [.lst xs] => (EM.opt (intsOf xs)).bind fun ns => EM.ret (.own (.lst ((sortI ns).map PV.int)))
  | _ => EM.bad
theorem cs_sorted (W : WX) : CallR X (.builtin "sorted") (rSemN X.K ca W bSorted) := by
  intro pins s σ0 H vs us Q I r ⟨c, M, σ, e, ps, S, rp, h⟩
  match ps, h with
  | [], h => exact False.elim h
  | p :: _ :: _, h => exact False.elim (by cases p <;> exact h)
  | [p], h =>
    obtain ⟨v, rfl, rv⟩ := pair1 rp
    cases p <;> first | exact False.elim h | skip
    case lst xs =>
      obtain ⟨a, ws, rfl, ha, ra⟩ := rv
      obtain ⟨ns, eb, h⟩ := RdAt.optB h
      have := intsOf_reps ra eb
      subst this
      refine cr_sortedI pins s σ0 H _ us Q I r ⟨a, ns, rfl, SqL.of ha, fun ms l pm sm hl => ?_⟩
      have := sortI_uniq pm sm
      subst this
      exact h.ret (S.alloc hl) (relV.newL S hl (intsReps _))
end
end QB

namespace QB
open PySem L2

/-! ### statements -/
def SRdAt (K : PySem.W.Frag) (ca : Str → Addr) (c : Fx) (m : SM) (W : WX) (e : En) (D : Ends) : Prop :=
  match m e with
  | .nx e' => ∀ σ' H' M', Sim K ca c M' σ' H' e' → D.nx σ' H'
  | .rt r e' => ∀ v σ' H' M', Sim K ca c M' σ' H' e' → relV K ca c M' σ' H' e' r v → D.rt v H'
  | .bk e' => ∀ σ' H' M', Sim K ca c M' σ' H' e' → D.bk σ' H'
  | .ct e' => ∀ σ' H' M', Sim K ca c M' σ' H' e' → D.ct σ' H'
  | .xc x e' => ∀ cls d σ' H' M', Sim K ca c M' σ' H' e' → XRep K ca M' H' x cls d → W cls d σ' H'
  | .bad => False
def SRd (K : PySem.W.Frag) (ca : Str → Addr) (m : SM) (W : WX) : TS := fun D σ H => ∃ c M e, Sim K ca c M σ H e ∧ SRdAt K ca c m W e D
def JS (X : Cx) (ca : Str → Addr) (m : SM) (st : Stmt) : Prop := ∀ W, Takes X W → PS X st (SRd X.K ca m W)
def JSs (X : Cx) (ca : Str → Addr) (m : SM) (st : List Stmt) : Prop := ∀ W, Takes X W → PSs X st (SRd X.K ca m W)
section
variable {X : Cx} {ca : Str → Addr} {K : PySem.W.Frag} {c : Fx} {M M' M1 : Addr → Prop} {σ σ' σ1 : St} {H H' H1 : Hp} {e e' e1 : En} {W : WX}
theorem PS.imp {st : Stmt} {t t' : TS} (h : PS X st t) (i : ∀ D σ H, t' D σ H → t D σ H) : PS X st t' := ⟨fun pins s σ H D I q => h.run pins s σ H D I (i D σ H q)⟩
theorem PSs.imp {st : List Stmt} {t t' : TS} (h : PSs X st t) (i : ∀ D σ H, t' D σ H → t D σ H) : PSs X st t' := ⟨fun pins s σ H D I q => h.run pins s σ H D I (i D σ H q)⟩
theorem relV.back {par : List (Nat × Addr)} {r : RV} {v : V} (S : Sim K ca c M1 σ1 H1 e1) (h : relV K ca (Fx.at M1 σ1 H1 e1 par) M σ H e r v) (hp : ∀ p ∈ c.par, p ∈ par) : relV K ca c M σ H e r v := by
  refine ⟨h.1, ?_⟩
  cases r with
  | val p => trivial
  | own o =>
    obtain ⟨a, e1, n, S', r⟩ := h.2
    exact ⟨a, e1, n, S.back S' hp, r⟩
def skipM : SM := fun e => .nx e
def seqM (a b : SM) : SM := fun e => match a e with
  | .nx e' => b e'
  | r => r
theorem jss_nil : JSs X ca skipM [] := fun W tk => PSs.imp pss_nil fun D σ H ⟨c, M, e, S, h⟩ => h σ H M S
theorem jss_one {st : Stmt} {m : SM} (h : JS X ca m st) : JSs X ca m [st] := fun W tk => pss_one (h W tk)
theorem jss_cons {st : Stmt} {rest : List Stmt} {m n : SM} (h : JS X ca m st) (h' : JSs X ca n rest) : JSs X ca (seqM m n) (st :: rest) := fun W tk =>
  PSs.imp (pss_cons (h W tk) (h' W tk)) fun D σ H ⟨c, M, e, S, q⟩ => by
    refine ⟨c, M, e, S, ?_⟩
    unfold SRdAt seqM at q
    unfold SRdAt
    cases z : m e with
    | nx e' => rw [z] at q; exact fun σ' H' M' S' => ⟨c, M', e', S', q⟩
    | rt r e' => rw [z] at q; exact q
    | bk e' => rw [z] at q; exact q
    | ct e' => rw [z] at q; exact q
    | xc x e' => rw [z] at q; exact q
    | bad => rw [z] at q; exact q
theorem js_pass {pos : Pos} : JS X ca skipM (.Pass pos) := fun W tk => PS.imp ps_pass fun D σ H ⟨c, M, e, S, h⟩ => h σ H M S
theorem js_break {pos : Pos} : JS X ca (fun e => .bk e) (.Break pos) := fun W tk => PS.imp ps_break fun D σ H ⟨c, M, e, S, h⟩ => h σ H M S
theorem js_continue {pos : Pos} : JS X ca (fun e => .ct e) (.Continue pos) := fun W tk => PS.imp ps_continue fun D σ H ⟨c, M, e, S, h⟩ => h σ H M S
/-- an expression, then what is made of its value -/
def thenS {α : Type} (m : EM α) (f : α → SM) : SM := fun e => match m e with
  | .ok a e' => f a e'
  | .exc x e' => .xc x e'
  | .bad => .bad
theorem SRdAt.thenS {α β : Type} {m : EM α} {f : α → SM} {rel : RelT α β} {D : Ends} {P : β → Hp → Prop} (h : SRdAt K ca c (thenS m f) W e D) (S : Sim K ca c M σ H e)
    (k : ∀ a b H1 M1 e1, Sim K ca c M1 σ H1 e1 → Same (hid H M) (hid H1 M1) → rel (Fx.at M σ H e c.par) M1 σ H1 e1 a b → SRdAt K ca c (f a) W e1 D → P b H1) : Rd K ca m rel W σ H P := by
  refine ⟨_, M, e, S.here, ?_⟩
  unfold SRdAt QB.thenS at h
  unfold RdAt
  cases q : m e with
  | ok a e' => rw [q] at h; exact fun b H' M' S' r => k a b H' M' e' (S.backH S') S'.ext r h
  | exc x e' => rw [q] at h; exact fun cls d H' M' S' r => h cls d σ H' M' (S.backH S') r
  | bad => rw [q] at h; exact h.elim
theorem js_if {t : Expr} {a b : List Stmt} {mt : EM Bool} {ma mb : SM} {pos : Pos} (ht : JT X ca mt t) (ha : JSs X ca ma a) (hb : JSs X ca mb b) : JS X ca (thenS mt fun k => if k then ma else mb) (.If t a b pos) := fun W tk =>
  PS.imp (ps_if (ht W tk) (ha W tk) (hb W tk)) fun D σ H ⟨c, M, e, S, q⟩ => SRdAt.thenS q S fun k k' H1 M1 e1 S1 _ r q1 => by
    cases r
    cases k with
    | true => exact ⟨c, M1, e1, S1, q1⟩
    | false => exact ⟨c, M1, e1, S1, q1⟩
def retM (m : EM RV) : SM := thenS m fun r e => .rt r e
theorem js_ret {a : Expr} {m : EM RV} {pos : Pos} (h : JE X ca m a) : JS X ca (retM m) (.Return (some a) pos) := fun W tk =>
  PS.imp (ps_ret (h W tk)) fun D σ H ⟨c, M, e, S, q⟩ => SRdAt.thenS q S fun r v H1 M1 e1 S1 _ rr q1 => q1 v σ H1 M1 S1 (relV.back S rr fun _ h => h)
theorem js_retN {pos : Pos} : JS X ca (fun e => .rt (.val .non) e) (.Return none pos) := fun W tk =>
  PS.imp ps_retN fun D σ H ⟨c, M, e, S, q⟩ => q .non σ H M S ⟨rfl, trivial⟩
def isComp : Expr → Bool
  | .ListComp _ _ _ _ => true
  | .SetComp _ _ _ _ => true
  | .DictComp _ _ _ _ _ => true
  | _ => false
theorem swaps_none {a : Expr} {t : Option Expr} {l : Nat} {env : Env} (h : isComp a = false) : swapsWith a t l env = pure false := by
  cases a <;> first | rfl | cases h
def exprM (m : EM RV) : SM := thenS m fun _ e => .nx e
theorem js_expr {a : Expr} {m : EM RV} {pos : Pos} (hc : isComp a = false) (h : JE X ca m a) : JS X ca (exprM m) (.Expr a pos) := fun W tk =>
  PS.imp (ps_expr (h W tk) (swaps_none hc)) fun D σ H ⟨c, M, e, S, q⟩ => SRdAt.thenS q S fun r v H1 M1 e1 S1 _ rr q1 => q1 σ H1 M1 S1

/-! ### a name is stored -/
def pinO : Option Slot → Bool
  | some s => s.pin
  | none => false
def setSl (i : Nat) (s : Slot) (e : En) : Option En := match e[i]? with
  | some o => if pinO o then none else some (e.set i (some s))
  | none => none
theorem setSl_inv {i : Nat} {s : Slot} (h : setSl i s e = some e') : i < e.length ∧ e' = e.set i (some s) ∧ ∀ t, e[i]? = some (some t) → t.pin = false := by
  unfold setSl at h
  cases q : e[i]? with
  | none => simp only [q] at h; cases h
  | some o =>
    simp only [q] at h
    cases z : pinO o with
    | true => simp [z] at h
    | false =>
      simp only [z, Bool.false_eq_true, if_false] at h
      cases h
      refine ⟨(List.getElem?_eq_some_iff.mp q).1, rfl, fun t zt => ?_⟩
      cases zt
      exact z
theorem getSet {i j : Nat} {s : Option Slot} {t : Slot} (hi : i < e.length) (q : (e.set i s)[j]? = some (some t)) : (j = i ∧ s = some t) ∨ (j ≠ i ∧ e[j]? = some (some t)) := by
  by_cases hj : j = i
  · subst hj
    rw [List.getElem?_set_self hi] at q
    cases q
    exact .inl ⟨rfl, rfl⟩
  · rw [List.getElem?_set_ne (Ne.symm hj)] at q
    exact .inr ⟨hj, q⟩
theorem Sim.storeV (S : Sim K ca c M σ H e) {i : Nat} {p : PV} {v : V} (rr : Rep K ca (hid H M) p v) (h : setSl i (.val p) e = some e') : Sim K ca c M (σ.set i (some v)) H e' := by
  obtain ⟨hi, rfl, hp⟩ := setSl_inv h
  have hσ : i < σ.length := by rw [← S.len]; exact hi
  have sself : (σ.set i (some v))[i]? = some (some v) := by rw [List.getElem?_set_self hσ]
  have sne : ∀ {j : Nat}, j ≠ i → (σ.set i (some v))[j]? = σ[j]? := fun hj => List.getElem?_set_ne (Ne.symm hj)
  refine ⟨by rw [List.length_set, List.length_set]; exact S.len, fun j s q => ?_, fun j k s t b q1 q2 h1 h2 q3 q4 => ?_, S.ext, S.frame, fun j s b q h1 h2 => ?_, fun p hq => ?_, S.there, S.cthere, S.sub⟩
  · rcases getSet hi q with ⟨rfl, z⟩ | ⟨hj, q⟩
    · cases z
      exact ⟨v, sself, rr⟩
    · rw [sne hj]
      exact S.slot j s q
  · rcases getSet hi q1 with ⟨rfl, z⟩ | ⟨hj, q1⟩
    · cases z; cases h1
    · rcases getSet hi q2 with ⟨rfl, z⟩ | ⟨hk, q2⟩
      · cases z; rcases h2 with h2 | h2 <;> cases h2
      · rw [sne hj] at q3
        rw [sne hk] at q4
        exact S.inj j k s t b q1 q2 h1 h2 q3 q4
  · rcases getSet hi q with ⟨rfl, z⟩ | ⟨hj, q⟩
    · cases z; cases h1
    · rw [sne hj] at h2
      exact S.ownd j s b q h1 h2
  · obtain ⟨q1, s, q2, q3⟩ := S.par p hq
    have ne : p.1 ≠ i := fun z => by
      rw [z] at q2
      rw [hp s q2] at q3
      cases q3
    exact ⟨by rw [sne ne]; exact q1, s, by rw [List.getElem?_set_ne (Ne.symm ne)]; exact q2, q3⟩
theorem Sim.store (S : Sim K ca c M σ H e) {i : Nat} {r : RV} {v : V} (rr : relV K ca c M σ H e r v) (h : setSl i r.slot e = some e') : ∃ M', Sim K ca c M' (σ.set i (some v)) H e' := by
  cases r with
  | val p => exact ⟨M, S.storeV rr.1 h⟩
  | own o =>
    obtain ⟨hi, rfl, hp⟩ := setSl_inv h
    have hσ : i < σ.length := by rw [← S.len]; exact hi
    have sself : (σ.set i (some v))[i]? = some (some v) := by rw [List.getElem?_set_self hσ]
    have sne : ∀ {j : Nat}, j ≠ i → (σ.set i (some v))[j]? = σ[j]? := fun hj => List.getElem?_set_ne (Ne.symm hj)
    obtain ⟨a, rfl, na, S', mr⟩ := rr.2
    have far : ∀ {j : Nat} {s : Slot}, e[j]? = some (some s) → (s.chg = true ∨ s.pin = true) → σ[j]? = some (some (.ref a)) → False := fun q hc qa => na (S.chg_at q hc qa).1
    refine ⟨addM M a, ⟨by rw [List.length_set, List.length_set]; exact S.len, fun j s q => ?_, fun j k s t b q1 q2 h1 h2 q3 q4 => ?_, S'.ext, S'.frame, fun j s b q h1 h2 => ?_, fun p hq => ?_, S'.there, S'.cthere, S'.sub⟩⟩
    · rcases getSet hi q with ⟨rfl, z⟩ | ⟨hj, q⟩
      · cases z
        exact ⟨_, sself, a, rfl, .inr rfl, mr⟩
      · rw [sne hj]
        exact S'.slot j s q
    · rcases getSet hi q1 with ⟨hj, z⟩ | ⟨hj, q1⟩
      · rcases getSet hi q2 with ⟨hk, z'⟩ | ⟨hk, q2⟩
        · rw [hj, hk]
        · rw [hj, sself] at q3
          cases q3
          rw [sne hk] at q4
          exact (far q2 h2 q4).elim
      · rcases getSet hi q2 with ⟨hk, z'⟩ | ⟨hk, q2⟩
        · rw [hk, sself] at q4
          cases q4
          rw [sne hj] at q3
          exact (far q1 (.inl h1) q3).elim
        · rw [sne hj] at q3
          rw [sne hk] at q4
          exact S.inj j k s t b q1 q2 h1 h2 q3 q4
    · rcases getSet hi q with ⟨hj, z⟩ | ⟨hj, q⟩
      · rw [hj, sself] at h2
        cases h2
        by_cases h0 : c.M0 a
        · by_cases hc : c.ch a
          · exact .inl hc
          · exact absurd (S.frame a h0 hc).1 na
        · exact .inr h0
      · rw [sne hj] at h2
        exact S.ownd j s b q h1 h2
    · obtain ⟨q1, s, q2, q3⟩ := S.par p hq
      have ne : p.1 ≠ i := fun z => by
        rw [z] at q2
        rw [hp s q2] at q3
        cases q3
      exact ⟨by rw [sne ne]; exact q1, s, by rw [List.getElem?_set_ne (Ne.symm ne)]; exact q2, q3⟩
def optS (o : Option En) : SR := match o with
  | some e => .nx e
  | none => .bad
def asgM (i : Nat) (m : EM RV) : SM := thenS m fun r e => optS (setSl i r.slot e)
theorem asg_at {D : Ends} {i : Nat} {r : RV} {v : V} (S : Sim K ca c M σ H e) (rr : relV K ca c M σ H e r v) (q : SRdAt K ca c (fun e => optS (setSl i r.slot e)) W e D) : D.nx (σ.set i (some v)) H := by
  unfold SRdAt at q
  dsimp only at q
  cases z : setSl i r.slot e with
  | none => rw [z] at q; exact False.elim q
  | some e' =>
    rw [z] at q
    obtain ⟨M', S'⟩ := S.store rr z
    exact q _ H M' S'
theorem js_set {i : Nat} {x : Str} {a : Expr} {m : EM RV} {pos pos' : Pos} (hN : X.N.Nodup) (hi : X.N[i]? = some x) (hx : Loc X.env.scope x) (hf : X.fn x = true) (hc : isComp a = false) (h : JE X ca m a) : JS X ca (asgM i m) (.Assign [.Name x pos'] a pos) := fun W tk =>
  PS.imp (ps_set hN hi hx (h W tk) (swaps_none hc) (.inl hf)) fun D σ H ⟨c, M, e, S, q⟩ => SRdAt.thenS q S fun r v H1 M1 e1 S1 _ rr q1 => asg_at S1 (relV.back S rr fun _ h => h) q1
theorem js_setW {i : Nat} {x : Str} {a : Expr} {m : EM RV} {pos pos' : Pos} (hN : X.N.Nodup) (hi : X.N[i]? = some x) (hx : Loc X.env.scope x) (hf : X.fn x = true) (hc : ∀ l, swapsWith a (some (.Name x pos')) l X.env = pure false) (h : JE X ca m a) : JS X ca (asgM i m) (.Assign [.Name x pos'] a pos) := fun W tk =>
  PS.imp (ps_set hN hi hx (h W tk) (hc _) (.inl hf)) fun D σ H ⟨c, M, e, S, q⟩ => SRdAt.thenS q S fun r v H1 M1 e1 S1 _ rr q1 => asg_at S1 (relV.back S rr fun _ h => h) q1
/-- a, b = x, y -/
def asg2M (i j : Nat) (m : EM (List PV)) : SM := thenS m fun ps e => match ps with
  | [p, q] => match setSl i (.val p) e with
    | some e1 => optS (setSl j (.val q) e1)
    | none => .bad
  | _ => .bad
theorem js_par {i j : Nat} {x y : Str} {a b : Expr} {m : EM (List PV)} {px py pt pos : Pos} {kt k2 pt2} (hc : X.calm = true) (hN : X.N.Nodup) (hi : X.N[i]? = some x) (hj : X.N[j]? = some y) (hij : i ≠ j)
    (hx : X.env.scope.names.lookup x = some .local) (hy : X.env.scope.names.lookup y = some .local) (ha : JV X ca m [a, b])
    (hw : swappedStores [.Tuple [.Name x px, .Name y py] kt pt] (.Tuple [a, b] k2 pt2) X.env = pure (some [x, y])) :
    JS X ca (asg2M i j m) (.Assign [.Tuple [.Name x px, .Name y py] kt pt] (.Tuple [a, b] k2 pt2) pos) := fun W tk =>
  PS.imp (ps_par hc hN hi hj hij hx hy (ha W tk) hw rfl) fun D σ H ⟨c, M, e, S, q⟩ => SRdAt.thenS q S fun ps vs H1 M1 e1 S1 _ rr q1 => by
    unfold SRdAt at q1
    match ps, rr, q1 with
    | [], _, q1 => exact False.elim q1
    | [_], _, q1 => exact False.elim q1
    | _ :: _ :: _ :: _, _, q1 => exact False.elim q1
    | [p, r], rr, q1 =>
      obtain ⟨v, vs', rfl, rp, v2, vs2, rfl, rp2, e0⟩ := rr
      cases e0
      refine ⟨v, v2, rfl, ?_⟩
      dsimp only at q1
      cases z : setSl i (.val p) e1 with
      | none => simp only [z] at q1
      | some e2 =>
        simp only [z] at q1
        have S2 := S1.storeV rp z
        cases z2 : setSl j (.val r) e2 with
        | none => simp only [z2, optS] at q1
        | some e3 =>
          simp only [z2, optS] at q1
          exact q1 _ H1 M1 (S2.storeV rp2 z2)
end
end QB

namespace QB
open PySem L2
def Slot.mo : Slot → Option MO
  | .own o => some o
  | .par o => some o
  | _ => none
def Slot.put : Slot → MO → Slot
  | .own _, o => .own o
  | .par _, o => .par o
  | s, _ => s
section
variable {X : Cx} {ca : Str → Addr} {K : PySem.W.Frag} {c : Fx} {M M' M1 : Addr → Prop} {σ σ' σ1 : St} {H H' H1 : Hp} {e e' e1 : En} {W : WX}

/-! ### an object in a slot changes -/
theorem same_updM {a : Addr} {o : HO} (h : M a) : Same (hid H M) (hid (upd H a o) M) := fun b q z => by
  obtain ⟨h1, h2⟩ := hid_of.mp z
  have ne : b ≠ a := fun e => h2 (e ▸ h)
  exact hid_of.mpr ⟨by rw [upd_ne ne]; exact h1, h2⟩
theorem Sim.mutate (S : Sim K ca c M σ H e) {i : Nat} {s : Slot} {m m' : MO} {a : Addr} {o' : HO} (h : e[i]? = some (some s)) (hm : s.mo = some m) (ha : σ[i]? = some (some (.ref a)))
    (mr : MRep K ca (hid (upd H a o') M) (upd H a o') a m') : Sim K ca c M σ (upd H a o') (e.set i (some (s.put m'))) := by
  have hi : i < e.length := (List.getElem?_eq_some_iff.mp h).1
  have hc : s.chg = true := by cases s <;> first | rfl | cases hm
  obtain ⟨Ma, live⟩ := S.chg_at h (.inl hc) ha
  have sm : Same (hid H M) (hid (upd H a o') M) := same_updM Ma
  have hc' : (s.put m').chg = s.chg ∧ (s.put m').pin = s.pin := by cases s <;> first | exact ⟨rfl, rfl⟩ | cases hm
  have back : ∀ {j : Nat} {t : Slot}, (e.set i (some (s.put m')))[j]? = some (some t) → ∃ t0, e[j]? = some (some t0) ∧ t.chg = t0.chg ∧ t.pin = t0.pin := fun {j t} q => by
    rcases getSet hi q with ⟨rfl, z⟩ | ⟨hj, q⟩
    · cases z
      exact ⟨s, h, hc'.1, hc'.2⟩
    · exact ⟨t, q, rfl, rfl⟩
  have aslot : c.ch a ∨ ¬ c.M0 a := S.ownd i s a h hc ha
  refine ⟨by rw [List.length_set]; exact S.len, fun j t q => ?_, fun j k t u b q1 q2 h1 h2 q3 q4 => ?_, S.ext.trans sm, fun b h0 hn => ?_, fun j t b q h1 h2 => ?_, fun p hp => ?_, fun b hb => ?_, fun b hb => ?_, S.sub⟩
  · rcases getSet hi q with ⟨rfl, z⟩ | ⟨hj, q⟩
    · cases z
      refine ⟨_, ha, ?_⟩
      cases s with
      | own _ => exact ⟨a, rfl, Ma, mr⟩
      | par _ => exact ⟨a, rfl, Ma, mr⟩
      | val _ => cases hm
    · obtain ⟨v, e1, r⟩ := S.slot j t q
      refine ⟨v, e1, ?_⟩
      have far : (t.chg = true ∨ t.pin = true) → ∀ b, v = .ref b → upd H a o' b = H b := fun hq b eb => upd_ne fun z => by
        subst eb; subst z
        exact hj (S.inj i j _ t b h q hc hq ha e1).symm
      cases t with
      | val p => exact Rep.mono sm r
      | own m => obtain ⟨b, eb, mb, r⟩ := r; exact ⟨b, eb, mb, r.mono sm (far (.inl rfl) b eb)⟩
      | par m => obtain ⟨b, eb, mb, r⟩ := r; exact ⟨b, eb, mb, r.mono sm (far (.inl rfl) b eb)⟩
  · obtain ⟨t0, p1, c1, _⟩ := back q1
    obtain ⟨u0, p2, c2, d2⟩ := back q2
    exact S.inj j k t0 u0 b p1 p2 (c1 ▸ h1) (by rw [← c2, ← d2]; exact h2) q3 q4
  · obtain ⟨m, q⟩ := S.frame b h0 hn
    refine ⟨m, ?_⟩
    rw [upd_ne fun z => ?_]
    · exact q
    · subst z
      rcases aslot with z | z
      · exact hn z
      · exact z h0
  · obtain ⟨t0, p1, c1, _⟩ := back q
    exact S.ownd j t0 b p1 (c1 ▸ h1) h2
  · obtain ⟨q1, t, q2, q3⟩ := S.par p hp
    refine ⟨q1, ?_⟩
    by_cases hj : p.1 = i
    · rw [hj] at q2 ⊢
      rw [h] at q2
      cases q2
      exact ⟨s.put m', by rw [List.getElem?_set_self hi], by rw [hc'.2]; exact q3⟩
    · exact ⟨t, by rw [List.getElem?_set_ne (Ne.symm hj)]; exact q2, q3⟩
  · exact upd_live (S.there b hb)
  · exact upd_live (S.cthere b hb)
theorem Sim.objAt (S : Sim K ca c M σ H e) {i : Nat} {s : Slot} {m : MO} (h : e[i]? = some (some s)) (hm : s.mo = some m) : ∃ a, σ[i]? = some (some (.ref a)) ∧ M a ∧ MRep K ca (hid H M) H a m := by
  obtain ⟨v, e1, r⟩ := S.slot i s h
  cases s with
  | val p => cases hm
  | own o => cases hm; obtain ⟨a, rfl, m1, r⟩ := r; exact ⟨a, e1, m1, r⟩
  | par o => cases hm; obtain ⟨a, rfl, m1, r⟩ := r; exact ⟨a, e1, m1, r⟩
/-- the list in a slot, changed by a function that may fail -/
def lstAt (i : Nat) (e : En) : Option (Slot × List PV) := match e[i]? with
  | some (some s) => match s.mo with
    | some (.lst xs) => some (s, xs)
    | _ => none
  | _ => none
theorem lstAt_inv {i : Nat} {s : Slot} {xs : List PV} (h : lstAt i e = some (s, xs)) : e[i]? = some (some s) ∧ s.mo = some (.lst xs) := by
  unfold lstAt at h
  cases q : e[i]? with
  | none => simp only [q] at h; cases h
  | some o =>
    cases o with
    | none => simp only [q] at h; cases h
    | some t =>
      simp only [q] at h
      cases z : t.mo with
      | none => simp only [z] at h; cases h
      | some m =>
        cases m <;> simp only [z] at h <;> cases h
        exact ⟨rfl, z⟩
def chgM {α : Type} (i : Nat) (f : List PV → Option (List PV × α)) : EM α := fun e => match lstAt i e with
  | some (s, xs) => match f xs with
    | some (ys, a) => .ok a (e.set i (some (s.put (.lst ys))))
    | none => .bad
  | none => .bad
theorem RdAt.chg {α β : Type} {i : Nat} {f : List PV → Option (List PV × α)} {rel : RelT α β} {Q : β → Hp → Prop} (h : RdAt K ca c (chgM i f) rel W e σ Q) (S : Sim K ca c M σ H e) :
    ∃ a xs vs ys r, σ[i]? = some (some (.ref a)) ∧ H a = some (.lst vs) ∧ Reps K ca (hid H M) xs vs ∧ f xs = some (ys, r) ∧ ∀ ws, Reps K ca (hid H M) ys ws → ∃ e', Sim K ca c M σ (upd H a (.lst ws)) e' ∧ ∀ b, rel c M σ (upd H a (.lst ws)) e' r b → Q b (upd H a (.lst ws)) := by
  unfold RdAt chgM at h
  cases z : lstAt i e with
  | none => rw [z] at h; exact h.elim
  | some p =>
    obtain ⟨s, xs⟩ := p
    rw [z] at h
    obtain ⟨h1, h2⟩ := lstAt_inv z
    obtain ⟨a, ha, Ma, vs, hv, rv⟩ := S.objAt h1 h2
    cases zf : f xs with
    | none => simp only [zf] at h
    | some q =>
      obtain ⟨ys, r⟩ := q
      simp only [zf] at h
      refine ⟨a, xs, vs, ys, r, ha, hv, rv, zf, fun ws rw' => ?_⟩
      have S' := S.mutate (m' := .lst ys) (o' := .lst ws) h1 h2 ha ⟨ws, upd_same, rw'.mono (same_updM Ma)⟩
      exact ⟨_, S', fun b rb => h b _ M S' rb⟩

theorem RdAt.slotM {γ δ : Type} {i : Nat} {f : Opd → EM γ} {rel : RelT γ δ} {Q : δ → Hp → Prop} (h : RdAt K ca c ((QB.slotM i).bind f) rel W e σ Q) (S : Sim K ca c M σ H e) : ∃ v, σ[i]? = some (some v) ∧ RdAt K ca c (f (.slot i)) rel W e σ Q := by
  unfold RdAt EM.bind QB.slotM at h
  cases q : e[i]? with
  | none => simp only [q] at h
  | some z =>
    cases z with
    | none => simp only [q] at h
    | some s =>
      simp only [q] at h
      obtain ⟨v, e1, _⟩ := S.slot i s q
      exact ⟨v, e1, h⟩
/-- x[k] = e, x a list in a slot -/
def putIx (k : Int) (p : PV) (xs : List PV) : Option (List PV × Unit) := (ixN xs.length k).map fun j => (xs.set j p, ())
def intM {α : Type} (f : Int → EM α) : PV → EM α
  | .int k => f k
  | _ => EM.bad
def setIxE (i : Nat) (mk : EM Opd) (mv : EM RV) : EM Unit := mv.bind fun r => (slotM i).bind fun _ => mk.bind fun o => (lookM o).bind (intM fun k => chgM i (putIx k r.pv))
def setIxM (i : Nat) (mk : EM Opd) (mv : EM RV) : SM := thenS (setIxE i mk mv) fun _ e => .nx e
theorem noswap_sub {o i : Expr} {p : Pos} {a : Expr} {env : Env} : swappedStores [.Subscript o i p] a env = pure none := by
  cases a <;> rfl
theorem unit_at {m : EM Unit} {D : Ends} (q : SRdAt K ca c (thenS m fun _ e => .nx e) W e D) : RdAt K ca c m (fun _ _ _ _ _ (_ : Unit) (_ : Unit) => True) W e σ (fun _ H' => D.nx σ H') := by
  unfold SRdAt thenS at q
  unfold RdAt
  cases z : m e with
  | ok a e' => rw [z] at q; exact fun b H' M' S' _ => q σ H' M' S'
  | exc y e' => rw [z] at q; exact fun cls d H' M' S' r => q cls d σ H' M' S' r
  | bad => rw [z] at q; exact q
theorem js_setIx {i : Nat} {x : Str} {k a : Expr} {mk : EM Opd} {mv : EM RV} {px ps pos : Pos} (hN : X.N[i]? = some x) (hv : Vis X.env.scope x) (hd : (x == ("__debug__" : Str)) = false) (hcd : (x == ("__classdict__" : Str)) = false)
    (hsl : isSlice k = false) (hc : isComp a = false) (hk : JO X ca mk k) (ha : JE X ca mv a) : JS X ca (setIxM i mk mv) (.Assign [.Subscript (.Name x px) k ps] a pos) := fun W tk => by
  have hset : ∀ v, assign (.Subscript (.Name x px) k ps) X.env v = (do
      let ov ← holding [v] (eval (.Name x px) X.env)
      let iv ← holding [v, ov] (eval k X.env)
      standAt ps
      holding [v, ov, iv] (setItem ov iv v)
      release [v, ov, iv] []) := by
    intro v
    cases k <;> first | rfl | cases hsl
  refine PS.imp (ps_asg (ha W tk) (pg_sub (pe_var hN hv hd hcd) (hk W tk) set_list hset) (by unfold swapsWithSole; exact swaps_none hc) noswap_sub rfl) fun D σ H ⟨c, M, e, S, q⟩ => ?_
  refine RdAt.bind (unit_at (σ := σ) q) S fun r v H1 M1 e1 S1 _ _ rr q1 => ?_
  obtain ⟨v', hv', q1⟩ := q1.slotM S1
  refine ⟨v', hv', ?_⟩
  refine RdAt.bind q1 S1 fun o w H2 M2 e2 S2 sm _ r2 q2 => ?_
  obtain ⟨p, _, rp, q3⟩ := q2.lookM S2 r2
  cases p <;> first | exact False.elim q3 | skip
  case int =>
    cases rp
    obtain ⟨a', xs, vs, ys, _, ha', hl, rl, hf, fin⟩ := q3.chg S2
    rw [hv'] at ha'
    cases ha'
    unfold putIx at hf
    cases zj : ixN xs.length _ with
    | none => rw [zj] at hf; cases hf
    | some j =>
      rw [zj] at hf
      cases hf
      obtain ⟨e', S', fin⟩ := fin (vs.set j v) (rl.set (rr.1.mono sm))
      exact ⟨a', vs, _, j, rfl, rfl, hl, by rw [rl.length]; exact zj, fin () trivial⟩

/-! ### methods of lists in slots -/
def isCall0 : Expr → Bool
  | .Call (.Name _ _) [] [] _ => true
  | _ => false
theorem abase {o : Expr} {a : Str} {env : Env} {w : Sem Value} (h : isCall0 o = false) : attributeBase o a env w = w := by
  unfold attributeBase
  split
  · cases h
  · rfl
def appX (p : PV) (xs : List PV) : Option (List PV × RV) := if decide (xs.length < sizeLine) then some (xs ++ [p], .val .non) else none
/-- a list stands in the slot -/
def isLst (i : Nat) : EM Unit := fun e => match lstAt i e with
  | some _ => .ok () e
  | none => .bad
def appM (i : Nat) (mv : EM RV) : EM RV := (slotM i).bind fun _ => (isLst i).bind fun _ => mv.bind fun r => chgM i (appX r.pv)
theorem RdAt.isLst {γ δ : Type} {i : Nat} {f : Unit → EM γ} {rel : RelT γ δ} {Q : δ → Hp → Prop} (h : RdAt K ca c ((QB.isLst i).bind f) rel W e σ Q) (S : Sim K ca c M σ H e) : ∃ a vs, σ[i]? = some (some (.ref a)) ∧ H a = some (.lst vs) ∧ RdAt K ca c (f ()) rel W e σ Q := by
  unfold RdAt EM.bind QB.isLst at h
  cases q : lstAt i e with
  | none => simp only [q] at h
  | some z =>
    obtain ⟨s, xs⟩ := z
    simp only [q] at h
    obtain ⟨h1, h2⟩ := lstAt_inv q
    obtain ⟨a, ha, Ma, vs, hv, rv⟩ := S.objAt h1 h2
    exact ⟨a, vs, ha, hv, h⟩
theorem few_ok {env : Env} {cpos : Pos} {es : List Expr} (hs : noStars es = true) (hl : es.length < 20) : ((backTo cpos (starEach es env)).all (fun x => !x.1) && (backToKw cpos (keywordEach [] env)).all (fun x => x.1.isSome)
      && decide (es.length + ([] : List Keyword).length + (if ([] : List Keyword).isEmpty then 0 else 1) < 30)) = true := by
  have h1 : (backTo cpos (starEach es env)).all (fun x => !x.1) = true := by
    have := noStars_any (env := env) (pos := cpos) hs
    rw [List.all_eq_not_any_not]
    simpa using this
  rw [h1]
  have : es.length < 30 := by omega
  simp [backToKw, keywordEach, this]
theorem je_app {i : Nat} {x : Str} {a : Expr} {mv : EM RV} {px apos cpos : Pos} (hN : X.N[i]? = some x) (hv : Vis X.env.scope x) (hd : (x == ("__debug__" : Str)) = false) (hcd : (x == ("__classdict__" : Str)) = false)
    (hl : (apos.endLine == cpos.line) = true) (hs : isStar a = false) (ha : JE X ca mv a) : JE X ca (appM i mv) (.Call (.Attribute (.Name x px) "append" apos) [a] [] cpos) := fun W tk => by
  have hns : noStars [a] = true := by unfold noStars; simp [hs]
  refine PE.imp (pe_bm PySem.F.plainAttrs_list PySem.F.slot_list_append PySem.F.type_list_append mt_append (pe_var hN hv hd hcd) (pa_cons (ha W tk) pa_nil (star_cons hs)) (abase rfl) (few_ok hns (by show 1 < 20; decide)) hl (star_cons hs) rfl) fun σ H Q ⟨c, M, e, S, q⟩ => ?_
  obtain ⟨v', hv', q1⟩ := q.slotM S
  obtain ⟨a', vs, ha', hl', q2⟩ := q1.isLst S
  refine ⟨v', hv', ?_, ?_⟩
  · rw [hv'] at ha'; cases ha'
    exact .inl ⟨rfl, _, SqL.of hl'⟩
  · refine RdAt.bind q2 S fun r v H1 M1 e1 S1 sm _ rr q3 => ?_
    obtain ⟨a2, xs, vs2, ys, r2, ha2, hl2, rl, hf, fin⟩ := q3.chg S1
    rw [hv'] at ha2; cases ha2
    unfold appX at hf
    cases z : decide (xs.length < sizeLine) with
    | false => simp [z] at hf
    | true =>
      simp only [z, if_true] at hf
      cases hf
      obtain ⟨e', S', fin⟩ := fin (vs2 ++ [v]) (rl.append (Reps.one rr.1))
      exact ⟨a2, vs2, v, rfl, rfl, hl2, by rw [rl.length]; exact of_decide_eq_true z, fin _ ⟨rfl, trivial⟩⟩
/-- x.extend(y), y any list -/
def extX (ps : List PV) (xs : List PV) : Option (List PV × RV) := if szOk (xs.length + ps.length) then some (xs ++ ps, .val .non) else none
def lstM' {α : Type} (f : List PV → EM α) : PV → EM α
  | .lst ps => f ps
  | _ => EM.bad
def extM (i : Nat) (mv : EM Opd) : EM RV := (slotM i).bind fun _ => (isLst i).bind fun _ => mv.bind fun o => (lookM o).bind (lstM' fun ps => chgM i (extX ps))
theorem je_ext {i : Nat} {x : Str} {a : Expr} {mv : EM Opd} {px apos cpos : Pos} (hN : X.N[i]? = some x) (hv : Vis X.env.scope x) (hd : (x == ("__debug__" : Str)) = false) (hcd : (x == ("__classdict__" : Str)) = false)
    (hl : (apos.endLine == cpos.line) = true) (hs : isStar a = false) (ha : JO X ca mv a) : JE X ca (extM i mv) (.Call (.Attribute (.Name x px) "extend" apos) [a] [] cpos) := fun W tk => by
  have hns : noStars [a] = true := by unfold noStars; simp [hs]
  refine PE.imp (pe_bm PySem.F.plainAttrs_list PySem.F.slot_list_extend PySem.F.type_list_extend mt_extend (pe_var hN hv hd hcd) (pa_cons (ha W tk) pa_nil (star_cons hs)) (abase rfl) (few_ok hns (by show 1 < 20; decide)) hl (star_cons hs) rfl) fun σ H Q ⟨c, M, e, S, q⟩ => ?_
  obtain ⟨v', hv', q1⟩ := q.slotM S
  obtain ⟨a', vs, ha', hl', q2⟩ := q1.isLst S
  refine ⟨v', hv', ?_, ?_⟩
  · rw [hv'] at ha'; cases ha'
    exact .inl ⟨rfl, _, SqL.of hl'⟩
  · refine RdAt.bind q2 S fun o v H1 M1 e1 S1 sm _ rr q3 => ?_
    obtain ⟨p, _, rp, q4⟩ := q3.lookM S1 rr
    cases p <;> first | exact False.elim q4 | skip
    case lst =>
      rename_i ps _
      obtain ⟨b, ws, rfl, hb, rb⟩ := rp
      obtain ⟨a2, xs, vs2, ys, r2, ha2, hl2, rl, hf, fin⟩ := q4.chg S1
      rw [hv'] at ha2; cases ha2
      unfold extX at hf
      cases z : szOk (xs.length + ps.length) with
      | false => simp [z] at hf
      | true =>
        simp only [z, if_true] at hf
        cases hf
        obtain ⟨e', S', fin⟩ := fin (vs2 ++ ws) (rl.append rb)
        exact ⟨a2, b, vs2, ws, rfl, rfl, hl2, hb, by rw [rl.length, rb.length]; exact of_decide_eq_true z, fin _ ⟨rfl, trivial⟩⟩
end
end QB

namespace QB
open PySem L2
/-! ### targets -/
abbrev Bnd := PV → En → Option En
def Off (ws : List Nat) (σ σ' : St) : Prop := σ'.length = σ.length ∧ ∀ i, i ∉ ws → σ'[i]? = σ[i]?
def GOk (K : PySem.W.Frag) (ca : Str → Addr) (b : Bnd) (ws : List Nat) (g : TG) : Prop := ∀ c M σ H e p v Q e', Sim K ca c M σ H e → Rep K ca (hid H M) p v → b p e = some e' → (∀ σ', Sim K ca c M σ' H e' → Off ws σ σ' → Q σ' H) → g v σ H Q
def bndNm (i : Nat) : Bnd := fun p e => setSl i (.val p) e
def bndAll : List Nat → List PV → En → Option En
  | [], [], e => some e
  | i :: is, p :: ps, e => match setSl i (.val p) e with
    | some e' => bndAll is ps e'
    | none => none
  | _, _, _ => none
def bndTup (is : List Nat) : Bnd := fun p e => match p with
  | .tup ps => bndAll is ps e
  | _ => none
inductive Tgt where
  | nm (i : Nat) | tup (is : List Nat)
def Tgt.b : Tgt → Bnd
  | .nm i => bndNm i
  | .tup is => bndTup is
def Tgt.ws : Tgt → List Nat
  | .nm i => [i]
  | .tup is => is
/-- several names -/
def gNames : List Nat → TGs
  | [] => gNil
  | i :: is => gCons (gName i) (gNames is)
def Tgt.g (K : PySem.W.Frag) : Tgt → TG
  | .nm i => gName i
  | .tup is => gTup K is.length (gNames is)
def JG (X : Cx) (t : Tgt) (tg : Expr) : Prop := PG X tg (t.g X.K)
section
variable {X : Cx} {ca : Str → Addr} {K : PySem.W.Frag} {c : Fx} {M M' M1 : Addr → Prop} {σ σ' σ1 : St} {H H' H1 : Hp} {e e' e1 : En} {W : WX}
theorem Off.refl {ws : List Nat} : Off ws σ σ := ⟨rfl, fun _ _ => rfl⟩
theorem Off.set {ws : List Nat} {i : Nat} {v : Option V} (hi : i ∈ ws) : Off ws σ (σ.set i v) := ⟨List.length_set, fun j hj => List.getElem?_set_ne fun z => hj (by rw [← z]; exact hi)⟩
theorem Off.trans {ws : List Nat} {σ2 : St} (h : Off ws σ σ1) (h' : Off ws σ1 σ2) : Off ws σ σ2 := ⟨h'.1.trans h.1, fun i hi => (h'.2 i hi).trans (h.2 i hi)⟩
theorem Off.mono {ws ws' : List Nat} (h : Off ws σ σ1) (hs : ∀ i ∈ ws, i ∈ ws') : Off ws' σ σ1 := ⟨h.1, fun i hi => h.2 i fun z => hi (hs i z)⟩
theorem jg_name {i : Nat} {x : Str} {pos : Pos} (hN : X.N.Nodup) (hi : X.N[i]? = some x) (hx : Loc X.env.scope x) (hf : X.fn x = true ∨ X.env.scope.names.lookup x = some .local) : JG X (.nm i) (.Name x pos) := pg_name hN hi hx hf
def NamesAt (X : Cx) : List Expr → List Nat → Prop
  | [], is => is = []
  | t :: ts, is => ∃ i is' x pos, is = i :: is' ∧ t = .Name x pos ∧ X.N[i]? = some x ∧ Loc X.env.scope x ∧ (X.fn x = true ∨ X.env.scope.names.lookup x = some .local) ∧ NamesAt X ts is'
theorem pgs_names (hN : X.N.Nodup) : ∀ {ts : List Expr} {is : List Nat}, NamesAt X ts is → PGs X ts (gNames is) ∧ (assignEach ts X.env).length = is.length ∧ (assignEach ts X.env).findIdx? (·.1) = none
  | [], is, h => by
    cases h
    exact ⟨pgs_nil, rfl, rfl⟩
  | t :: ts, is, h => by
    obtain ⟨i, is', x, pos, rfl, rfl, h1, h2, h3, h4⟩ := h
    obtain ⟨p1, p2, p3⟩ := pgs_names hN h4
    refine ⟨pgs_cons (pg_name hN h1 h2 h3) p1 rfl, ?_, ?_⟩
    · show (assignEach ts X.env).length + 1 = is'.length + 1
      rw [p2]
    · show List.findIdx? (fun x => x.1) ((false, assign (.Name x pos) X.env) :: assignEach ts X.env) = none
      rw [List.findIdx?_cons]
      simp [p3]
theorem gNames_ok : ∀ {is ws : List Nat} {ps : List PV} {vs : List V} {Q : St → Hp → Prop} {e e' : En} {σ : St}, (∀ i ∈ is, i ∈ ws) → Sim K ca c M σ H e → Reps K ca (hid H M) ps vs → bndAll is ps e = some e' → (∀ σ', Sim K ca c M σ' H e' → Off ws σ σ' → Q σ' H) → gNames is vs σ H Q
  | [], ws, [], _, Q, e, e', σ, _, S, r, h, k => by
    cases r; cases h
    exact ⟨rfl, k σ S Off.refl⟩
  | [], _, _ :: _, _, _, _, _, _, _, _, _, h, _ => by cases h
  | _ :: _, _, [], _, _, _, _, _, _, _, _, h, _ => by cases h
  | i :: is, ws, p :: ps, _, Q, e, e', σ, hs, S, r, h, k => by
    obtain ⟨v, vs, rfl, r1, r2⟩ := r
    unfold bndAll at h
    cases z : setSl i (.val p) e with
    | none => simp only [z] at h; cases h
    | some e1 =>
      simp only [z] at h
      exact ⟨v, vs, rfl, gNames_ok (fun j hj => hs j (List.mem_cons_of_mem _ hj)) (S.storeV r1 z) r2 h fun σ' S' o => k σ' S' ((Off.set (hs i List.mem_cons_self)).trans o)⟩
theorem bndAll_len : ∀ {is : List Nat} {ps : List PV} {e e' : En}, bndAll is ps e = some e' → ps.length = is.length := by
  intro is
  induction is with
  | nil => intro ps e e' h; cases ps with
    | nil => rfl
    | cons _ _ => cases h
  | cons i is ih => intro ps e e' h; cases ps with
    | nil => cases h
    | cons p ps =>
      unfold bndAll at h
      cases z : setSl i (.val p) e with
      | none => simp only [z] at h; cases h
      | some e1 =>
        simp only [z] at h
        rw [List.length_cons, List.length_cons, ih h]
theorem jg_tup {ts : List Expr} {is : List Nat} {k : Nat} {pos : Pos} (hc : X.calm = true) (hN : X.N.Nodup) (h : NamesAt X ts is) : JG X (.tup is) (.Tuple ts k pos) := by
  obtain ⟨p1, p2, p3⟩ := pgs_names hN h
  exact pg_tup hc p1 p2 p3
theorem Tgt.ok : ∀ {t : Tgt}, GOk K ca t.b t.ws (t.g K)
  | .nm i => fun c M σ H e p v Q e' S r h k => k _ (S.storeV r h) (Off.set List.mem_cons_self)
  | .tup is => fun c M σ H e p v Q e' S r hb k => by
    have hb : bndTup is p e = some e' := hb
    cases p <;> first | (cases hb; done) | skip
    case tup ps =>
      obtain ⟨a, vs, rfl, ha, ra⟩ := r
      exact ⟨a, vs, rfl, Same.sqT hid_same ha, by rw [ra.length]; exact bndAll_len hb, gNames_ok (fun _ h => h) S ra hb k⟩

/-! ### what is walked -/
structure ItOk (K : PySem.W.Frag) (ca : Str → Addr) (G1 : Hp) (J : It) (xs : List PV) : Prop where
  stop : ∀ H M, Same G1 (hid H M) → J.stop xs.length H
  go : ∀ H M i, i < xs.length → Same G1 (hid H M) → J.go i H
  yld : ∀ H M i x H', i < xs.length → Same G1 (hid H M) → J.yld i H x H' → ∃ p, xs[i]? = some p ∧ ∀ c σ e, Sim K ca c M σ H e → Sim K ca c M σ H' e ∧ Same (hid H M) (hid H' M) ∧ (∀ a, (H a).isSome = true → H' a = H a) ∧ Rep K ca (hid H' M) p x
def relI (K : PySem.W.Frag) (ca : Str → Addr) : RelT (List PV) It := fun _ M _ H _ xs J => ItOk K ca (hid H M) J xs
def JI (X : Cx) (ca : Str → Addr) (m : EM (List PV)) (tg iter : Expr) : Prop := ∀ W, Takes X W → PI X tg iter (Rd X.K ca m (relI X.K ca) W)
theorem drop_get {α : Type} {xs : List α} {i : Nat} {p : α} (h : xs[i]? = some p) : xs.drop i = p :: xs.drop (i + 1) := by
  obtain ⟨hi, e⟩ := List.getElem?_eq_some_iff.mp h
  rw [List.drop_eq_getElem_cons hi, e]
theorem PI.or {tg iter : Expr} {w w' : TI} (h : PI X tg iter w) (h' : PI X tg iter w') : PI X tg iter (fun σ H R => w σ H R ∨ w' σ H R) := ⟨fun pins s σ H R I q => q.elim (h.run pins s σ H R I) (h'.run pins s σ H R I)⟩
theorem PI.imp {tg iter : Expr} {w w' : TI} (h : PI X tg iter w) (i : ∀ σ H R, w' σ H R → w σ H R) : PI X tg iter w' := ⟨fun pins s σ H R I q => h.run pins s σ H R I (i σ H R q)⟩
/-- items that stand still -/
theorem ItOk.of {G1 : Hp} {J : It} {xs : List PV} (stop : ∀ H M, Same G1 (hid H M) → J.stop xs.length H)
    (go : ∀ H M i, i < xs.length → Same G1 (hid H M) → J.go i H ∧ ∀ x H', J.yld i H x H' → H' = H ∧ ∃ p, xs[i]? = some p ∧ Rep K ca G1 p x) : ItOk K ca G1 J xs where
  stop := stop
  go := fun H M i hi s => (go H M i hi s).1
  yld := fun H M i x H' hi s y => by
    obtain ⟨rfl, p, hp, r⟩ := (go H M i hi s).2 x H' y
    exact ⟨p, hp, fun c σ e S => ⟨S, Same.refl _, fun _ _ => rfl, r.mono s⟩⟩
/-- the items of a value -/
def itemsOf : PV → Option (List PV)
  | .lst xs => some xs
  | .tup xs => some xs
  | .rdl xs => some xs
  | .str x => some (x.cps.toList.map fun c => .str ⟨#[c]⟩)
  | _ => none
def itV (m : EM RV) : EM (List PV) := m.bind fun r => EM.opt (itemsOf r.pv)
theorem it_list {G1 : Hp} {a : Addr} {xs : List PV} {vs : List V} (sq : ∀ H M, Same G1 (hid H M) → SqL K H a vs) (ra : Reps K ca G1 xs vs) : ItOk K ca G1 (Itl K a) xs := by
  refine ItOk.of (fun H M s => ⟨vs, sq H M s, by rw [ra.length]; exact Nat.le_refl _⟩) fun H M i hlt s => ?_
  have hl : i < vs.length := by rw [ra.length]; exact hlt
  refine ⟨⟨vs, vs[i], sq H M s, by simp [hl]⟩, fun x H'' y => ?_⟩
  obtain ⟨e0, y⟩ := y
  exact ⟨e0, ra.getV (y vs (sq H M s))⟩
theorem it_tup {G1 : Hp} {a : Addr} {xs : List PV} {vs : List V} (ha : SqT K G1 a vs) (ra : Reps K ca G1 xs vs) : ItOk K ca G1 (Itt K a) xs := by
  have sq : ∀ H M, Same G1 (hid H M) → SqT K H a vs := fun H M s => Same.sqT hid_same (Same.sqT s ha)
  refine ItOk.of (fun H M s => ⟨vs, sq H M s, by rw [ra.length]; exact Nat.le_refl _⟩) fun H M i hlt s => ?_
  have hl : i < vs.length := by rw [ra.length]; exact hlt
  refine ⟨⟨vs, vs[i], sq H M s, by simp [hl]⟩, fun x H'' y => ?_⟩
  obtain ⟨e0, y⟩ := y
  exact ⟨e0, ra.getV (y vs (sq H M s))⟩
theorem ji_val {tg iter : Expr} {m : EM RV} (hi : JE X ca m iter) : JI X ca (itV m) tg iter := fun W tk => by
  refine PI.imp (PI.or (pi_list (hi W tk)) (PI.or (pi_tup (hi W tk)) (pi_str (hi W tk)))) fun σ H R ⟨c, M, e, S, q⟩ => ?_
  unfold RdAt itV EM.bind at q
  cases z : m e with
  | bad => simp only [z] at q
  | exc x e' =>
    simp only [z] at q
    refine .inl ⟨c, M, e, S, ?_⟩
    unfold RdAt
    rw [z]
    exact fun cls d H' M' S' r => q cls d H' M' S' r
  | ok r e' =>
    simp only [z] at q
    have fin : ∀ {P : VK}, (∀ v H' M', Sim X.K ca c M' σ H' e' → Rep X.K ca (hid H' M') r.pv v → P v H') → Rd X.K ca m (relV X.K ca) W σ H P := fun {P} k => by
      refine ⟨c, M, e, S, ?_⟩
      unfold RdAt
      rw [z]
      exact fun b H' M' S' rr => k b H' M' S' rr.1
    cases zp : r.pv with
    | lst xs =>
      simp only [zp, itemsOf, EM.opt, EM.ret] at q
      refine .inl (fin fun v H1 M1 S1 rv => ?_)
      rw [zp] at rv
      obtain ⟨a, vs, rfl, ha, ra⟩ := rv
      exact ⟨a, rfl, ⟨vs, SqL.of (hid_same _ _ ha)⟩, q _ H1 M1 S1 (it_list (fun H M s => SqL.of (hid_same _ _ (s _ _ ha))) ra)⟩
    | rdl xs =>
      simp only [zp, itemsOf, EM.opt, EM.ret] at q
      refine .inl (fin fun v H1 M1 S1 rv => ?_)
      rw [zp] at rv
      obtain ⟨a, vs, rfl, ha, ra⟩ := rv
      exact ⟨a, rfl, ⟨vs, Same.seq hid_same ha⟩, q _ H1 M1 S1 (it_list (fun H M s => Same.seq hid_same (Same.seq s ha)) ra)⟩
    | tup xs =>
      simp only [zp, itemsOf, EM.opt, EM.ret] at q
      refine .inr (.inl (fin fun v H1 M1 S1 rv => ?_))
      rw [zp] at rv
      obtain ⟨a, vs, rfl, ha, ra⟩ := rv
      exact ⟨a, rfl, ⟨vs, Same.sqT hid_same ha⟩, q _ H1 M1 S1 (it_tup ha ra)⟩
    | str x =>
      simp only [zp, itemsOf, EM.opt, EM.ret] at q
      refine .inr (.inr (fin fun v H1 M1 S1 rv => ?_))
      rw [zp] at rv
      cases rv
      refine ⟨x, rfl, q _ H1 M1 S1 (ItOk.of (fun H M s => ?_) fun H M i hlt s => ?_)⟩
      · show x.cps.size ≤ _
        simp
      · have hl : i < x.cps.size := by simpa using hlt
        refine ⟨hl, fun v H'' y => ?_⟩
        obtain ⟨e0, cc, y1, rfl⟩ := y
        refine ⟨e0, .str ⟨#[cc]⟩, ?_, rfl⟩
        rw [List.getElem?_map, Array.getElem?_toList, y1]
        rfl
    | _ => simp only [zp, itemsOf, EM.opt, EM.bad] at q
/-- range(n), range(a, b) -/
def rngP (lo hi : Int) : List PV := (List.range (hi - lo).toNat).map fun (k : Nat) => PV.int (lo + k)
def inR (i : Int) : Bool := decide (-(2 ^ 62) ≤ i ∧ i < 2 ^ 62)
def rng1 : List PV → Option (List PV)
  | [.int j] => if inR j then some (rngP 0 j) else none
  | _ => none
def rng2 : List PV → Option (List PV)
  | [.int i, .int j] => if inR i && inR j then some (rngP i j) else none
  | _ => none
/-- an iterable made of arguments -/
def itA (f : List PV → Option (List PV)) (ms : EM (List Opd)) : EM (List PV) := ms.bind fun os => (looksM os).bind fun ps => EM.opt (f ps)
theorem rng_items {G1 : Hp} {lo hi : Int} {n : Nat} (hn : n = (hi - lo).toNat) : ItOk K ca G1 (Itr lo n) (rngP lo hi) := by
  have hl : (rngP lo hi).length = n := by unfold rngP; simp [hn]
  refine ItOk.of (fun H M s => ?_) fun H M i hlt s => ?_
  · show n ≤ _
    omega
  · refine ⟨by show i < n; omega, fun x H'' y => ?_⟩
    obtain ⟨e0, rfl⟩ := y
    refine ⟨e0, .int (lo + i), ?_, rfl⟩
    unfold rngP
    rw [List.getElem?_map, List.getElem?_range (by rw [← hn]; omega)]
    rfl
theorem ji_rng1 {tg a : Expr} {ms : EM (List Opd)} {p pos' : Pos} (hgl : Gl X "range") (hm : X.mg "range" = none) (hs : isStar a = false) (hi : JA X ca ms [a]) : JI X ca (itA rng1 ms) tg (.Call (.Name "range" p) [a] [] pos') := fun W tk => by
  refine PI.imp (pi_range1 hgl hm (hi W tk) (star_cons hs)) fun σ H R ⟨c, M, e, S, q⟩ => RdAt.bind q S fun os vs H1 M1 e1 S1 _ _ r q1 => ?_
  obtain ⟨ps, hlk, rp, q2⟩ := q1.looksM S1 r
  clear hlk
  obtain ⟨xs, hx, q3⟩ := q2.opt
  unfold rng1 at hx
  split at hx
  · rename_i j
    obtain ⟨v, rfl, rv⟩ := pair1 rp
    cases rv
    split at hx
    · rename_i z
      cases hx
      obtain ⟨h1, h2⟩ := of_decide_eq_true z
      exact ⟨j, rfl, h1, h2, q3.ret S1 (rng_items (by simp))⟩
    · cases hx
  · cases hx
theorem ji_rng2 {tg a a' : Expr} {ms : EM (List Opd)} {p pos' : Pos} (hgl : Gl X "range") (hm : X.mg "range" = none) (hs : isStar a = false) (hs' : isStar a' = false) (hi : JA X ca ms [a, a']) : JI X ca (itA rng2 ms) tg (.Call (.Name "range" p) [a, a'] [] pos') := fun W tk => by
  refine PI.imp (pi_range2 hgl hm (hi W tk) (by rw [star_cons hs, star_cons hs']; rfl) (star_cons hs')) fun σ H R ⟨c, M, e, S, q⟩ => RdAt.bind q S fun os vs H1 M1 e1 S1 _ _ r q1 => ?_
  obtain ⟨ps, hlk, rp, q2⟩ := q1.looksM S1 r
  clear hlk
  obtain ⟨xs, hx, q3⟩ := q2.opt
  unfold rng2 at hx
  split at hx
  · rename_i i j
    obtain ⟨v, w, rfl, rv, rw⟩ := pair2 rp
    cases rv; cases rw
    split at hx
    · rename_i z
      cases hx
      obtain ⟨z1, z2⟩ := Bool.and_eq_true_iff.mp z
      obtain ⟨h1, h2⟩ := of_decide_eq_true z1
      obtain ⟨h3, h4⟩ := of_decide_eq_true z2
      exact ⟨i, j, rfl, ⟨h1, h2, h3, h4⟩, q3.ret S1 (rng_items rfl)⟩
    · cases hx
  · cases hx

/-! ### for -/
def loopM (b : Bnd) (body : SM) : List PV → SM
  | [], e => .nx e
  | p :: ps, e => match b p e with
    | none => .bad
    | some e1 => match body e1 with
      | .nx e2 => loopM b body ps e2
      | .ct e2 => loopM b body ps e2
      | .bk e2 => .nx e2
      | .rt r e2 => .rt r e2
      | .xc x e2 => .xc x e2
      | .bad => .bad
def forI (b : Bnd) (m : EM (List PV)) (body : SM) : SM := thenS m fun xs => loopM b body xs
theorem loop_turn {b : Bnd} {ws : List Nat} {g : TG} {body : SM} {p : PV} {ps : List PV} {x : V} {D : Ends} {c' : Fx} (S1 : Sim K ca c M1 σ1 H1 e1) (hc' : c' = Fx.at M1 σ1 H1 e1 c.par) (hg : GOk K ca b ws g) (S : Sim K ca c' M σ H e) (r' : Rep K ca (hid H M) p x)
    (q : SRdAt K ca c (loopM b body (p :: ps)) W e D) :
    g x σ H fun σ2 H2 => SRd K ca body W { D with nx := fun σ H => ∃ M e, Sim K ca c' M σ H e ∧ SRdAt K ca c (loopM b body ps) W e D, ct := fun σ H => ∃ M e, Sim K ca c' M σ H e ∧ SRdAt K ca c (loopM b body ps) W e D, bk := D.nx } σ2 H2 := by
  subst hc'
  unfold SRdAt loopM at q
  cases z : b p e with
  | none => simp only [z] at q
  | some e2 =>
    simp only [z] at q
    refine hg _ M σ H e p x _ e2 S r' z fun σ2 S2 _ => ?_
    refine ⟨_, M, e2, S2, ?_⟩
    unfold SRdAt
    cases z2 : body e2 with
    | nx e3 => simp only [z2] at q; exact fun σ' H' M' S' => ⟨M', e3, S', q⟩
    | ct e3 => simp only [z2] at q; exact fun σ' H' M' S' => ⟨M', e3, S', q⟩
    | bk e3 => simp only [z2] at q; exact fun σ' H' M' S' => q σ' H' M' (S1.backH S')
    | rt rv e3 => simp only [z2] at q; exact fun v σ' H' M' S' rr => q v σ' H' M' (S1.backH S') (relV.back S1 rr fun _ h => h)
    | xc y e3 => simp only [z2] at q; exact fun cls d σ' H' M' S' rr => q cls d σ' H' M' (S1.backH S') rr
    | bad => simp only [z2] at q
theorem loop_end {b : Bnd} {body : SM} {D : Ends} {c' : Fx} (S1 : Sim K ca c M1 σ1 H1 e1) (hc' : c' = Fx.at M1 σ1 H1 e1 c.par) (S : Sim K ca c' M σ H e) (q : SRdAt K ca c (loopM b body []) W e D) : D.nx σ H := by
  subst hc'
  exact q σ H M (S1.backH S)
theorem for_items {J : It} {ws : List Nat} {g : TG} {b : Bnd} {body : SM} {D : Ends} {xs : List PV} (S1 : Sim K ca c M1 σ1 H1 e1) (hg : GOk K ca b ws g) (q : SRdAt K ca c (loopM b body xs) W e1 D) (it : ItOk K ca (hid H1 M1) J xs) :
    ∃ Wv : Nat → Nat → St → Hp → Prop, (∃ m, Wv 0 m σ1 H1) ∧ ∀ i m σ H, Wv i m σ H →
      (J.stop i H ∧ D.nx σ H) ∨ (J.go i H ∧ ∃ N : St → Hp → Prop, (∀ σ' H', N σ' H' → ∃ m', m' < m ∧ Wv (i + 1) m' σ' H') ∧ ∀ x H', J.yld i H x H' → g x σ H' fun σ2 H2 => SRd K ca body W { D with nx := N, ct := N, bk := D.nx } σ2 H2) := by
  refine ⟨fun i m σ H => m = xs.length - i ∧ i ≤ xs.length ∧ ∃ M e, Sim K ca (Fx.at M1 σ1 H1 e1 c.par) M σ H e ∧ SRdAt K ca c (loopM b body (xs.drop i)) W e D, ⟨xs.length, by simp, Nat.zero_le _, M1, e1, S1.here, q⟩, ?_⟩
  rintro i m σ H ⟨rfl, hi, M, e, S, q⟩
  by_cases hlt : i < xs.length
  · refine .inr ⟨it.go H M i hlt S.ext, fun σ H => ∃ M e, Sim K ca (Fx.at M1 σ1 H1 e1 c.par) M σ H e ∧ SRdAt K ca c (loopM b body (xs.drop (i + 1))) W e D, fun σ' H' p' => ⟨xs.length - (i + 1), by omega, rfl, hlt, p'⟩, fun x H' y => ?_⟩
    obtain ⟨p, hp, rp⟩ := it.yld H M i x H' hlt S.ext y
    obtain ⟨S', _, _, r'⟩ := rp _ σ e S
    rw [drop_get hp] at q
    exact loop_turn S1 rfl hg S' r' q
  · have e0 : i = xs.length := by omega
    subst e0
    refine .inl ⟨it.stop H M S.ext, ?_⟩
    rw [List.drop_length] at q
    exact loop_end S1 rfl S q
def fSeq : Expr → Bool
  | .Set _ _ _ => true
  | _ => false
theorem noFold {iter : Expr} {env : Env} (h : fSeq iter = false) : ∀ x, foldedSetIterable iter env x = pure x := by
  intro x
  cases iter <;> first | rfl | cases h
theorem js_for {tg iter : Expr} {body : List Stmt} {t : Tgt} {m : EM (List PV)} {mb : SM} {pos : Pos} (hp : PassesOwn (model X.prog X.w) X.A X.env X.xe) (hc : X.calm = true) (hset : fSeq iter = false) (hi : JI X ca m tg iter) (hg : JG X t tg) (hb : JSs X ca mb body) :
    JS X ca (forI t.b m mb) (.For tg iter body [] pos) := fun W tk => by
  exact PS.imp (ps_for hp hc (hi W tk) hg (hb W tk) (noFold hset)) fun D σ H ⟨c, M, e, S, q⟩ => SRdAt.thenS q S fun xs J H1 M1 e1 S1 _ it q1 => for_items S1 t.ok q1 it
end
end QB

namespace QB
open PySem L2
/-! ### what a def means, and its promise -/
inductive FR where
  | ret (r : RV) (e : En) | exc (x : PX) (e : En) | bad
abbrev FSem := List Slot → FR
def bodyF (n : Nat) (body : SM) : FSem := fun args => match body (args.map some ++ List.replicate (n - args.length) none) with
  | .nx e => .ret (.val .non) e
  | .rt r e => .ret r e
  | .xc x e => .exc x e
  | _ => .bad
section
variable (K : PySem.W.Frag) (ca : Str → Addr)
structure ArgsOk (M : Addr → Prop) (H : Hp) (args : List Slot) (vs : List V) : Prop where
  rep : Paired (fun s v => SRep K ca M H v s) args vs
  kind : ∀ s ∈ args, (∃ p, s = .val p) ∨ ∃ o, s = .par o
  inj : ∀ (i j : Nat) o o' (a : Addr), args[i]? = some (.par o) → args[j]? = some (.par o') → vs[i]? = some (.ref a) → vs[j]? = some (.ref a) → i = j
  there : ∀ a, M a → (H a).isSome = true
def passed (args : List Slot) (vs : List V) (a : Addr) : Prop := ∃ (i : Nat) (o : MO), args[i]? = some (.par o) ∧ vs[i]? = some (.ref a)
structure After (M : Addr → Prop) (H : Hp) (M' : Addr → Prop) (H' : Hp) (args : List Slot) (vs : List V) (e' : En) : Prop where
  same : Same (hid H M) (hid H' M')
  hidn : ∀ a, M a → ¬ passed args vs a → M' a ∧ H' a = H a
  there : ∀ a, M' a → (H' a).isSome = true
  live : ∀ a, (H a).isSome = true → (H' a).isSome = true
  out : ∀ (i : Nat) o o' (a : Addr), args[i]? = some (.par o) → vs[i]? = some (.ref a) → e'[i]? = some (some (.par o')) → M' a ∧ MRep K ca (hid H' M') H' a o'
def FRel (M : Addr → Prop) (H : Hp) (M' : Addr → Prop) (H' : Hp) (args : List Slot) (vs : List V) (e' : En) (r : RV) (v : V) : Prop :=
  Rep K ca (hid H' M') r.pv v ∧ match r with
    | .val _ => True
    | .own o => ∃ a, v = .ref a ∧ ¬ M' a ∧ After K ca M H (addM M' a) H' args vs e' ∧ MRep K ca (hid H' (addM M' a)) H' a o
def spF (n : Nat) (F : FSem) : Sp := fun vs H Q E => vs.length = n ∧ ∃ M args, ArgsOk K ca M H args vs ∧ match F args with
  | .ret r e' => ∀ v H' M', After K ca M H M' H' args vs e' → FRel K ca M H M' H' args vs e' r v → Q v H'
  | .exc x e' => ∀ cls d H' M', After K ca M H M' H' args vs e' → XRep K ca M' H' x cls d → E cls d H'
  | .bad => False
end
section
variable {X : Cx} {ca : Str → Addr} {K : PySem.W.Frag} {c : Fx} {M M' M1 : Addr → Prop} {σ σ' σ1 : St} {H H' H1 : Hp} {e e' e1 : En} {W : WX} {args : List Slot} {vs : List V}
theorem pairedGet {α β : Type} {R : α → β → Prop} : ∀ {as : List α} {bs : List β} {i : Nat} {a : α}, Paired R as bs → as[i]? = some a → ∃ b, bs[i]? = some b ∧ R a b
  | _, _, _, _, .nil, e => by simp at e
  | _, _, 0, _, .cons r _, e => by simp at e; subst e; exact ⟨_, rfl, r⟩
  | _, _, i + 1, a, .cons _ t, e => by
    obtain ⟨u, h1, h2⟩ := pairedGet (i := i) (a := a) t (by simpa using e)
    exact ⟨u, by simpa using h1, h2⟩
theorem pairedLen {α β : Type} {R : α → β → Prop} : ∀ {as : List α} {bs : List β}, Paired R as bs → as.length = bs.length
  | _, _, .nil => rfl
  | _, _, .cons _ t => by rw [List.length_cons, List.length_cons, pairedLen t]
def parsOf : Nat → List Slot → List V → List (Nat × Addr)
  | k, .par _ :: args, .ref a :: vs => (k, a) :: parsOf (k + 1) args vs
  | k, _ :: args, _ :: vs => parsOf (k + 1) args vs
  | _, _, _ => []
theorem parsOf_mem : ∀ {args : List Slot} {vs : List V} {k : Nat} {p : Nat × Addr}, p ∈ parsOf k args vs → ∃ (j : Nat) (o : MO), p.1 = k + j ∧ args[j]? = some (.par o) ∧ vs[j]? = some (.ref p.2)
  | [], _, _, _, h => by cases h
  | s :: args, [], k, p, h => by cases s <;> cases h
  | s :: args, v :: vs, k, p, h => by
    have rest : p ∈ parsOf (k + 1) args vs → ∃ (j : Nat) (o : MO), p.1 = k + j ∧ (s :: args)[j]? = some (.par o) ∧ (v :: vs)[j]? = some (.ref p.2) := fun h => by
      obtain ⟨j, o, h1, h2, h3⟩ := parsOf_mem h
      exact ⟨j + 1, o, by omega, by simpa using h2, by simpa using h3⟩
    cases s with
    | par o =>
      cases v with
      | ref a =>
        rcases List.mem_cons.mp (show p ∈ (k, a) :: parsOf (k + 1) args vs from h) with e | h
        · subst e
          exact ⟨0, o, rfl, rfl, rfl⟩
        · exact rest h
      | _ => exact rest h
    | _ => exact rest h
theorem mem_parsOf : ∀ {args : List Slot} {vs : List V} {k j : Nat} {o : MO} {a : Addr}, args[j]? = some (.par o) → vs[j]? = some (.ref a) → (k + j, a) ∈ parsOf k args vs
  | [], _, _, _, _, _, h, _ => by simp at h
  | s :: args, [], _, j, _, _, _, h => by simp at h
  | s :: args, v :: vs, k, 0, o, a, h1, h2 => by
    simp at h1 h2
    subst h1; subst h2
    exact List.mem_cons_self
  | s :: args, v :: vs, k, j + 1, o, a, h1, h2 => by
    have ih := mem_parsOf (args := args) (vs := vs) (k := k + 1) (j := j) (by simpa using h1) (by simpa using h2)
    have e : k + (j + 1) = k + 1 + j := by omega
    rw [e]
    cases s with
    | par o' => cases v <;> first | exact List.mem_cons_of_mem _ ih | exact ih
    | _ => exact ih
def entryFx (M : Addr → Prop) (H : Hp) (args : List Slot) (vs : List V) : Fx := ⟨H, M, passed args vs, parsOf 0 args vs⟩
theorem passed_M (A : ArgsOk K ca M H args vs) {a : Addr} (h : passed args vs a) : M a := by
  obtain ⟨i, o, h1, h2⟩ := h
  obtain ⟨v, e1, r⟩ := pairedGet A.rep h1
  rw [h2] at e1; cases e1
  obtain ⟨b, e2, m, _⟩ := r
  cases e2
  exact m
theorem entry_sim (A : ArgsOk K ca M H args vs) {N : List Str} (hl : vs.length ≤ N.length) : Sim K ca (entryFx M H args vs) M (L2.start N vs) H (args.map some ++ List.replicate (N.length - args.length) none) := by
  have hlen := pairedLen A.rep
  have inA : ∀ {i : Nat} {s : Slot}, (args.map some ++ List.replicate (N.length - args.length) none)[i]? = some (some s) → args[i]? = some s := fun {i s} h => by
    by_cases hi : i < args.length
    · rw [List.getElem?_append_left (by simpa using hi), List.getElem?_map] at h
      cases q : args[i]? with
      | none => rw [q] at h; cases h
      | some t => rw [q] at h; cases h; rfl
    · rw [List.getElem?_append_right (by simpa using hi), List.getElem?_replicate] at h
      split at h <;> cases h
  have inS : ∀ {i : Nat} {v : V}, vs[i]? = some v → (L2.start N vs)[i]? = some (some v) := fun {i v} h => by
    have hi := (List.getElem?_eq_some_iff.mp h).1
    unfold L2.start
    rw [List.getElem?_append_left (by simpa using hi), List.getElem?_map, h]
    rfl
  have toE : ∀ {i : Nat} {s : Slot}, args[i]? = some s → (args.map some ++ List.replicate (N.length - args.length) none)[i]? = some (some s) := fun {i s} h => by
    have hi := (List.getElem?_eq_some_iff.mp h).1
    rw [List.getElem?_append_left (by simpa using hi), List.getElem?_map, h]
    rfl
  have parOf : ∀ {i : Nat} {s : Slot}, args[i]? = some s → (s.chg = true ∨ s.pin = true) → ∃ o, s = .par o := fun {i s} h hc => by
    rcases A.kind s (List.mem_of_getElem? h) with ⟨p, rfl⟩ | h
    · rcases hc with h | h <;> cases h
    · exact h
  have vOf : ∀ {i : Nat} {s : Slot} {a : Addr}, args[i]? = some s → (L2.start N vs)[i]? = some (some (.ref a)) → vs[i]? = some (.ref a) := fun {i s a} h h2 => by
    obtain ⟨v, e1, _⟩ := pairedGet A.rep h
    rw [inS e1] at h2
    cases h2
    exact e1
  refine ⟨?_, fun i s h => ?_, fun i j s t a h1 h2 hs ht q1 q2 => ?_, Same.refl _, fun a h _ => ⟨h, rfl⟩, fun i s a h hc q => ?_, fun p hp => ?_, A.there, fun a h => A.there a (passed_M A h), fun a h => passed_M A h⟩
  · unfold L2.start
    rw [List.length_append, List.length_append, List.length_map, List.length_map, List.length_replicate, List.length_replicate, hlen]
  · obtain ⟨v, e1, r⟩ := pairedGet A.rep (inA h)
    exact ⟨v, inS e1, r⟩
  · obtain ⟨o, rfl⟩ := parOf (inA h1) (.inl hs)
    obtain ⟨o', rfl⟩ := parOf (inA h2) ht
    exact A.inj i j o o' a (inA h1) (inA h2) (vOf (inA h1) q1) (vOf (inA h2) q2)
  · obtain ⟨o, rfl⟩ := parOf (inA h) (.inl hc)
    exact .inl ⟨i, o, inA h, vOf (inA h) q⟩
  · obtain ⟨j, o, h1, h2, h3⟩ := parsOf_mem hp
    rw [Nat.zero_add] at h1
    rw [h1]
    exact ⟨inS h3, .par o, toE h2, rfl⟩
theorem exit_after (A : ArgsOk K ca M H args vs) (S : Sim K ca (entryFx M H args vs) M' σ' H' e') : After K ca M H M' H' args vs e' where
  same := S.ext
  hidn := fun a h hn => S.frame a h hn
  there := S.there
  live := fun a h => by
    by_cases hm : M a
    · by_cases hp : passed args vs a
      · exact S.cthere a hp
      · rw [(S.frame a hm hp).2]; exact h
    · cases q : H a with
      | none => rw [q] at h; cases h
      | some o => rw [(hid_of.mp (S.ext a o (hid_of.mpr ⟨q, hm⟩))).1]; rfl
  out := fun i o o' a h1 h2 h3 => by
    have hp : (i, a) ∈ parsOf 0 args vs := by
      have := mem_parsOf (k := 0) h1 h2
      rwa [Nat.zero_add] at this
    obtain ⟨q, _⟩ := S.par (i, a) hp
    obtain ⟨v, e1, r⟩ := S.slot i _ h3
    rw [q] at e1
    cases e1
    obtain ⟨b, e2, m, r⟩ := r
    cases e2
    exact ⟨m, r⟩
/-- the promise of a def; with rp: where no repr is under way -/
structure FnR (rp : Bool) (P : Program) (w : World) (K : PySem.W.Frag) (mg : Str → Option Value) (base : Heap) (k : Nat) (f : Addr) (fd : FuncData) (ps : List Str) (sp : Sp) : Prop where
  len : ∀ vs H Q E, sp vs H Q E → vs.length = ps.length
  run : ∀ (A : Around) (outer : List Env) (s : Shared) (H : Hp) (args : Args) (us : List Value) (vs : List V) (Q : VK) (E : XK), (rp = true → A.guards = some []) → Room k A → Env0 P w K mg base A outer s H →
    BindsTo s fd args (ps.zip us) → Vals vs us → sp vs H Q E → codeAny (model P w) A (.call (.ref f) args) (CR (L2.CX P w) outer P w H s Q E) s
theorem FnR.toOk {P : Program} {w : World} {mg : Str → Option Value} {base : Heap} {k : Nat} {f : Addr} {fd : FuncData} {ps : List Str} {sp : Sp} (F : FnR false P w K mg base k f fd ps sp) : FnOk P w K mg base (L2.CX P w) k f fd ps sp :=
  ⟨F.len, fun A o s H ar us vs Q E => F.run A o s H ar us vs Q E (fun z => by cases z)⟩
theorem FnR.ofOk {rp : Bool} {P : Program} {w : World} {mg : Str → Option Value} {base : Heap} {k : Nat} {f : Addr} {fd : FuncData} {ps : List Str} {sp : Sp} (F : FnOk P w K mg base (L2.CX P w) k f fd ps sp) : FnR rp P w K mg base k f fd ps sp :=
  ⟨F.len, fun A o s H ar us vs Q E _ => F.run A o s H ar us vs Q E⟩
theorem fnR_of {rp : Bool} {P : Program} {w : World} {mg : Str → Option Value} {base : Heap} {x qual : Str} {params : Arguments} {body : List Stmt} {scope : Scope} {dvs : List V} {kws : List (Str × V)} {f : Addr} {fd : FuncData} {N ps : List Str} {k : Nat} {sp : Sp}
    (F : FunD K x qual params body scope dvs kws f fd) (S : FnScope N ps scope) (len : ∀ vs H Q E, sp vs H Q E → vs.length = ps.length)
    (hb : ∀ (cdv : Value) (A : Around) (outer : List Env) (s : Shared) (H : Hp) (vs : List V) (Q : VK) (E : XK), (rp = true → A.guards = some []) → Room k (A.deeper (PyProof.Rows.envOfC qual scope s.heap.objs.size f cdv)) → sp vs H Q E →
      ∃ t, PSs (cxOf (L2.CX P w) P w K mg base N qual scope f cdv A outer s H E) body t ∧ t { nx := fun _ H' => Q .non H', rt := Q } (start N vs) H) : FnR rp P w K mg base (k + 1) f fd ps sp := by
  obtain ⟨oc, od, dV, kV, doc, pm, an, cdv, ct, osl, rfl, lk, hcd, -, -⟩ := F.ex
  refine ⟨len, fun A outer s H ar us vs Q E hgd hr e0 bt rv q => ?_⟩
  have keep : ∀ b o, base.get? b = some o → s.heap.get? b = some o := fun b o z => (e0.bs b o z).1
  have KH : K.In s.heap := e0.mod.kin.keeps keep
  have par : ∀ y ∈ ps.zip us, scope.names.lookup y.1 = some .local ∨ (scope.names.lookup y.1 = some .cell ∧ ((cellsFrom (s.heap.objs.size + 1) scope.names []).lookup y.1).isSome = true) := by
    rintro ⟨n, v⟩ hy
    cases S.par n (List.of_mem_zip hy).1 with
    | inl z => exact .inl z
    | inr z => exact .inr ⟨z, PySem.W.cellsFrom_some _ _ _ (.inl z)⟩
  apply codeAny_call_function hr.depth (KH _ _ lk) rfl S.co S.gen rfl (PySem.W.codeRec_of KH hcd)
  apply bt
  apply wpAny_newFunctionEnv_cells S.kind par
  rintro env rfl s1 ic
  refine ⟨(e0.mod.nolimit.keeps keep).keeps ic.toInCall.keep, codeAny_func ?_⟩
  obtain ⟨t, ht, hq⟩ := hb cdv A outer s H vs Q E hgd (hr.deeper _) q
  have J0 : Inv (cxOf (L2.CX P w) P w K mg base N qual scope f cdv A outer s H E) [] (start N vs) H s1 := inv_start S hr.hd e0 (len _ _ _ _ q) rv ic
  refine wpAny_mono (ht.run [] s1 _ H _ J0 hq) (fun fl s2 hs => ?_) fun _ _ z => z
  match fl, hs with
  | .ret u, hs =>
    obtain ⟨v, σ', H', J, r, z⟩ := hs
    exact ⟨v, H', J.os, J.bare, J.base, J.hok, r, z⟩
  | .next, hs =>
    obtain ⟨σ', H', J, z⟩ := hs
    exact ⟨V.non, H', J.os, J.bare, J.base, J.hok, rfl, z⟩
  | .brk, hs => obtain ⟨_, _, _, z⟩ := hs; exact z.elim
  | .cont, hs => obtain ⟨_, _, _, z⟩ := hs; exact z.elim
/-- THE RULE: a def whose body means m keeps the promise of its meaning -/
theorem fn_ok {rp : Bool} {P : Program} {w : World} {mg : Str → Option Value} {base : Heap} {x qual : Str} {params : Arguments} {body : List Stmt} {scope : Scope} {dvs : List V} {kws : List (Str × V)} {f : Addr} {fd : FuncData} {N ps : List Str} {k : Nat} {m : SM}
    (F : FunD K x qual params body scope dvs kws f fd) (S : FnScope N ps scope)
    (h : ∀ (cdv : Value) (A : Around) (outer : List Env) (s : Shared) (H : Hp) (E : XK), (rp = true → A.guards = some []) → Room k (A.deeper (PyProof.Rows.envOfC qual scope s.heap.objs.size f cdv)) → JSs (cxOf (L2.CX P w) P w K mg base N qual scope f cdv A outer s H E) ca m body) :
    FnR rp P w K mg base (k + 1) f fd ps (spF K ca ps.length (bodyF N.length m)) := by
  have hps : ps.length ≤ N.length := by have := congrArg List.length S.pre; rw [List.length_take] at this; omega
  refine fnR_of F S (fun vs H Q E h => h.1) fun cdv A outer s H vs Q E hgd hr hsp => ?_
  obtain ⟨hl, M, args, AO, q⟩ := hsp
  refine ⟨_, h cdv A outer s H E hgd hr (fun cls d _ H' => E cls d H') (takes_of rfl rfl rfl rfl), ?_⟩
  have SE := entry_sim AO (N := N) (by omega)
  refine ⟨_, M, _, SE, ?_⟩
  unfold bodyF at q
  show SRdAt K ca _ _ _ _ _
  unfold SRdAt
  cases z : m (args.map some ++ List.replicate (N.length - args.length) none) with
  | nx e' => simp only [z] at q; exact fun σ' H' M' S' => q .non H' M' (exit_after AO S') ⟨rfl, trivial⟩
  | rt r e' =>
    simp only [z] at q
    refine fun v σ' H' M' S' rr => q v H' M' (exit_after AO S') ⟨rr.1, ?_⟩
    cases r with
    | val p => trivial
    | own o =>
      obtain ⟨a, h1, h2, h3, h4⟩ := rr.2
      exact ⟨a, h1, h2, exit_after AO h3, h4⟩
  | bk e' => simp only [z] at q
  | ct e' => simp only [z] at q
  | xc y e' => simp only [z] at q; exact fun cls d σ' H' M' S' rr => q cls d H' M' (exit_after AO S') rr
  | bad => simp only [z] at q
end
end QB

namespace QB
open PySem L2
/-! ### calls -/
/-- the arguments as they are handed in; of the borrowed ones the place among the arguments and the slot -/
def resolve (e : En) : Nat → List Opd → Option (List Slot × List (Nat × Nat))
  | _, [] => some ([], [])
  | k, .pv p :: os => match resolve e (k + 1) os with
    | some (ss, bs) => some (.val p :: ss, bs)
    | none => none
  | k, .slot i :: os => match e[i]?, resolve e (k + 1) os with
    | some (some (.val p)), some (ss, bs) => some (.val p :: ss, bs)
    | some (some (.own o)), some (ss, bs) => some (.par o :: ss, (k, i) :: bs)
    | some (some (.par o)), some (ss, bs) => some (.par o :: ss, (k, i) :: bs)
    | _, _ => none
/-- what was borrowed comes back -/
def giveBack (bs : List (Nat × Nat)) (e' e : En) : Option En := match bs with
  | [] => some e
  | [(k, i)] => match e'[k]?, e[i]? with
    | some (some (.par o)), some (some s) => some (e.set i (some (s.put o)))
    | _, _ => none
  | _ => none
def callE (F : FSem) (os : List Opd) : EM RV := fun e => match resolve e 0 os with
  | some (ss, bs) => match F ss with
    | .ret r e' => match giveBack bs e' e with
      | some e2 => .ok r e2
      | none => .bad
    | .exc x e' => match giveBack bs e' e with
      | some e2 => .exc x e2
      | none => .bad
    | .bad => .bad
  | none => .bad
section
variable {X : Cx} {ca : Str → Addr} {K : PySem.W.Frag} {c c' : Fx} {M M' M1 : Addr → Prop} {σ σ' σ1 : St} {H H' H1 : Hp} {e e' e1 e2 : En} {W : WX} {args : List Slot} {vs : List V}
def ResOk (K : PySem.W.Frag) (ca : Str → Addr) (M : Addr → Prop) (σ : St) (H : Hp) (e : En) (k : Nat) (ss : List Slot) (bs : List (Nat × Nat)) (vs : List V) : Prop :=
    Paired (fun s v => SRep K ca M H v s) ss vs ∧ (∀ s ∈ ss, (∃ p, s = .val p) ∨ ∃ o, s = .par o) ∧
    (∀ (j : Nat) o (a : Addr), ss[j]? = some (.par o) → vs[j]? = some (.ref a) → ∃ i, (k + j, i) ∈ bs ∧ σ[i]? = some (some (.ref a)) ∧ ∃ s, e[i]? = some (some s) ∧ s.mo = some o) ∧
    (∀ p ∈ bs, ∃ (j : Nat) (o : MO) (a : Addr), p.1 = k + j ∧ ss[j]? = some (.par o) ∧ vs[j]? = some (.ref a) ∧ σ[p.2]? = some (some (.ref a)) ∧ ∃ s, e[p.2]? = some (some s) ∧ s.mo = some o)
theorem resolve_ok (S : Sim K ca c M σ H e) : ∀ {os : List Opd} {vs : List V} {k : Nat} {ss : List Slot} {bs : List (Nat × Nat)}, relOs K ca c' M σ H e' os vs → resolve e k os = some (ss, bs) → ResOk K ca M σ H e k ss bs vs
  | [], _, k, ss, bs, .nil, h => by
    cases h
    exact ⟨.nil, fun s hs => (by cases hs), fun j o a h => (by simp at h), fun p hp => (by cases hp)⟩
  | .pv p :: os, v :: vs, k, ss, bs, .cons r t, h => by
    unfold resolve at h
    cases z : resolve e (k + 1) os with
    | none => simp only [z] at h; cases h
    | some q =>
      obtain ⟨ss', bs'⟩ := q
      simp only [z] at h
      cases h
      obtain ⟨h1, h2, h3, h4⟩ := resolve_ok S t z
      refine ⟨.cons r h1, fun s hs => ?_, fun j o a q1 q2 => ?_, fun q hq => ?_⟩
      · rcases List.mem_cons.mp hs with rfl | hs
        · exact .inl ⟨p, rfl⟩
        · exact h2 s hs
      · cases j with
        | zero => simp at q1
        | succ j =>
          obtain ⟨i, w1, w2, w3⟩ := h3 j o a (by simpa using q1) (by simpa using q2)
          exact ⟨i, by rw [show k + (j + 1) = k + 1 + j by omega]; exact w1, w2, w3⟩
      · obtain ⟨j, o, a, w1, w2, w3, w4⟩ := h4 q hq
        exact ⟨j + 1, o, a, by omega, by simpa using w2, by simpa using w3, w4⟩
  | .slot i :: os, v :: vs, k, ss, bs, .cons r t, h => by
    have r' : σ[i]? = some (some v) := r
    unfold resolve at h
    cases q : e[i]? with
    | none => simp only [q] at h; cases h
    | some z0 =>
      cases z0 with
      | none => simp only [q] at h; cases h
      | some s =>
        obtain ⟨v', e1, rs⟩ := S.slot i s q
        rw [r'] at e1; cases e1
        cases z : resolve e (k + 1) os with
        | none => cases s <;> simp only [q, z] at h <;> cases h
        | some q' =>
          obtain ⟨ss', bs'⟩ := q'
          obtain ⟨h1, h2, h3, h4⟩ := resolve_ok S t z
          have fin : ∀ {o : MO}, s.mo = some o → SRep K ca M H v (.par o) → (Slot.par o :: ss', (k, i) :: bs') = (ss, bs) → ResOk K ca M σ H e k ss bs (v :: vs) := fun {o} hm rp hh => by
            cases hh
            obtain ⟨a, rfl, m, mr⟩ := rp
            refine ⟨.cons ⟨a, rfl, m, mr⟩ h1, fun s hs => ?_, fun j o' b q1 q2 => ?_, fun p hp => ?_⟩
            · rcases List.mem_cons.mp hs with rfl | hs
              · exact .inr ⟨o, rfl⟩
              · exact h2 s hs
            · cases j with
              | zero =>
                simp at q1 q2
                subst q1; subst q2
                exact ⟨i, List.mem_cons_self, r', s, q, hm⟩
              | succ j =>
                obtain ⟨i', w1, w2, w3⟩ := h3 j o' b (by simpa using q1) (by simpa using q2)
                exact ⟨i', List.mem_cons_of_mem _ (by rw [show k + (j + 1) = k + 1 + j by omega]; exact w1), w2, w3⟩
            · rcases List.mem_cons.mp hp with rfl | hp
              · exact ⟨0, o, a, rfl, rfl, rfl, r', s, q, hm⟩
              · obtain ⟨j, o', b, w1, w2, w3, w4⟩ := h4 p hp
                exact ⟨j + 1, o', b, by omega, by simpa using w2, by simpa using w3, w4⟩
          cases s with
          | val p =>
            simp only [q, z] at h
            cases h
            refine ⟨.cons rs h1, fun s hs => ?_, fun j o a q1 q2 => ?_, fun q hq => ?_⟩
            · rcases List.mem_cons.mp hs with rfl | hs
              · exact .inl ⟨p, rfl⟩
              · exact h2 s hs
            · cases j with
              | zero => simp at q1
              | succ j =>
                obtain ⟨i', w1, w2, w3⟩ := h3 j o a (by simpa using q1) (by simpa using q2)
                exact ⟨i', by rw [show k + (j + 1) = k + 1 + j by omega]; exact w1, w2, w3⟩
            · obtain ⟨j, o, a, w1, w2, w3, w4⟩ := h4 q hq
              exact ⟨j + 1, o, a, by omega, by simpa using w2, by simpa using w3, w4⟩
          | own o =>
            simp only [q, z] at h
            exact fin rfl rs (Option.some.inj h)
          | par o =>
            simp only [q, z] at h
            exact fin rfl rs (Option.some.inj h)
/-- behind a call -/
theorem Sim.called (S : Sim K ca c M σ H e) {os : List Opd} {ss : List Slot} {bs : List (Nat × Nat)} (r : relOs K ca c' M σ H e1 os vs) (hr : resolve e 0 os = some (ss, bs)) (A : After K ca M H M' H' ss vs e') (hg : giveBack bs e' e = some e2) : Sim K ca c M' σ H' e2 := by
  obtain ⟨p1, p2, p3, p4⟩ := resolve_ok S r hr
  -- what is passed is what a slot of ours holds
  have pas : ∀ {a : Addr}, passed ss vs a → ∃ (i : Nat) (s : Slot), e[i]? = some (some s) ∧ s.chg = true ∧ σ[i]? = some (some (.ref a)) ∧ ∃ k, (k, i) ∈ bs := fun {a} ⟨j, o, h1, h2⟩ => by
    obtain ⟨i, w1, w2, s, w3, w4⟩ := p3 j o a h1 h2
    exact ⟨i, s, w3, (by cases s <;> first | rfl | cases w4), w2, _, w1⟩
  have keepS : ∀ {j : Nat} {s : Slot}, e[j]? = some (some s) → (∀ k, (k, j) ∉ bs) → ∃ v, σ[j]? = some (some v) ∧ SRep K ca M' H' v s := fun {j s} h hn => by
    obtain ⟨v, e1, rs⟩ := S.slot j s h
    refine ⟨v, e1, ?_⟩
    have far : (s.chg = true ∨ s.pin = true) → ∀ b, v = .ref b → M b → M' b ∧ H' b = H b := fun hc b eb mb => A.hidn b mb fun hp => by
      obtain ⟨i, t, w1, w2, w3, k, w4⟩ := pas hp
      subst eb
      have := S.inj i j t s b w1 h w2 hc w3 e1
      subst this
      exact hn k w4
    cases s with
    | val p => exact Rep.mono A.same rs
    | own m => obtain ⟨b, eb, mb, rr⟩ := rs; obtain ⟨f1, f2⟩ := far (.inl rfl) b eb mb; exact ⟨b, eb, f1, rr.mono A.same f2⟩
    | par m => obtain ⟨b, eb, mb, rr⟩ := rs; obtain ⟨f1, f2⟩ := far (.inl rfl) b eb mb; exact ⟨b, eb, f1, rr.mono A.same f2⟩
  have frm : ∀ a, c.M0 a → ¬ c.ch a → M' a ∧ H' a = c.H0 a := fun a h0 hn => by
    obtain ⟨m, q⟩ := S.frame a h0 hn
    obtain ⟨m', q'⟩ := A.hidn a m fun hp => by
      obtain ⟨i, t, w1, w2, w3, _⟩ := pas hp
      rcases S.ownd i t a w1 w2 w3 with z | z
      · exact hn z
      · exact z h0
    exact ⟨m', q'.trans q⟩
  match bs, hg with
  | [], hg =>
    cases hg
    exact ⟨S.len, fun j s h => keepS h fun k hk => (by cases hk), S.inj, S.ext.trans A.same, frm, S.ownd, S.par, A.there, fun a h => A.live a (S.cthere a h), S.sub⟩
  | _ :: _ :: _, hg => cases hg
  | [(k, i)], hg =>
    unfold giveBack at hg
    cases z1 : e'[k]? with
    | none => simp only [z1] at hg; cases hg
    | some t0 =>
      cases t0 with
      | none => simp only [z1] at hg; cases hg
      | some t =>
        cases t with
        | par o' =>
          cases z2 : e[i]? with
          | none => simp only [z1, z2] at hg; cases hg
          | some s0 =>
            cases s0 with
            | none => simp only [z1, z2] at hg; cases hg
            | some s =>
              simp only [z1, z2] at hg
              cases hg
              have hi : i < e.length := (List.getElem?_eq_some_iff.mp z2).1
              obtain ⟨j, o, a, w1, w2, w3, w4, s', w5, w6⟩ := p4 (k, i) List.mem_cons_self
              have w5' : e[i]? = some (some s') := w5
              rw [z2] at w5'
              cases w5'
              have hk : k = j := by have := w1; simp at this; exact this
              subst hk
              obtain ⟨mo', ro'⟩ := A.out k o o' a w2 w3 z1
              have hc : s.chg = true := by cases s <;> first | rfl | cases w6
              have hcp : (s.put o').chg = s.chg ∧ (s.put o').pin = s.pin := by cases s <;> first | exact ⟨rfl, rfl⟩ | cases w6
              have back : ∀ {j : Nat} {t : Slot}, (e.set i (some (s.put o')))[j]? = some (some t) → ∃ t0, e[j]? = some (some t0) ∧ t.chg = t0.chg ∧ t.pin = t0.pin := fun {j t} q => by
                rcases getSet hi q with ⟨rfl, z⟩ | ⟨hj, q⟩
                · cases z
                  exact ⟨s, z2, hcp.1, hcp.2⟩
                · exact ⟨t, q, rfl, rfl⟩
              refine ⟨by rw [List.length_set]; exact S.len, fun j t q => ?_, fun j k t u b q1 q2 h1 h2 q3 q4 => ?_, S.ext.trans A.same, frm, fun j t b q h1 h2 => ?_, fun p hp => ?_, A.there, fun a h => A.live a (S.cthere a h), S.sub⟩
              · rcases getSet hi q with ⟨rfl, z⟩ | ⟨hj, q⟩
                · cases z
                  refine ⟨_, w4, ?_⟩
                  cases s with
                  | own _ => exact ⟨a, rfl, mo', ro'⟩
                  | par _ => exact ⟨a, rfl, mo', ro'⟩
                  | val _ => cases w6
                · exact keepS q fun k' hk' => by
                    rcases List.mem_cons.mp hk' with e0 | e0
                    · cases e0; exact hj rfl
                    · cases e0
              · obtain ⟨t0, r1, c1, _⟩ := back q1
                obtain ⟨u0, r2, c2, d2⟩ := back q2
                exact S.inj j k t0 u0 b r1 r2 (c1 ▸ h1) (by rw [← c2, ← d2]; exact h2) q3 q4
              · obtain ⟨t0, r1, c1, _⟩ := back q
                exact S.ownd j t0 b r1 (c1 ▸ h1) h2
              · obtain ⟨q1, t, q2, q3⟩ := S.par p hp
                refine ⟨q1, ?_⟩
                by_cases hj : p.1 = i
                · rw [hj] at q2 ⊢
                  rw [z2] at q2
                  cases q2
                  exact ⟨s.put o', by rw [List.getElem?_set_self hi], by rw [hcp.2]; exact q3⟩
                · exact ⟨t, by rw [List.getElem?_set_ne (Ne.symm hj)]; exact q2, q3⟩
        | _ => simp only [z1] at hg; cases hg
theorem call_sp {n : Nat} {F : FSem} {os : List Opd} {Q : VK} {c0 : Fx} (h : RdAt K ca c (callE F os) (relV K ca) W e σ Q) (S : Sim K ca c M σ H e) (r : relOs K ca c0 M σ H e1 os vs) (hn : vs.length = n) : spF K ca n F vs H Q (WE W σ) := by
  refine ⟨hn, ?_⟩
  unfold RdAt callE at h
  cases z : resolve e 0 os with
  | none => rw [z] at h; exact h.elim
  | some q =>
    obtain ⟨ss, bs⟩ := q
    rw [z] at h
    dsimp only at h
    obtain ⟨p1, p2, p3, p4⟩ := resolve_ok S r z
    cases zf : F ss with
    | bad => simp only [zf] at h
    | ret rv e' =>
      simp only [zf] at h
      cases zg : giveBack bs e' e with
      | none => simp only [zg] at h
      | some e2 =>
        simp only [zg] at h
        have one : bs.length ≤ 1 := by
          match bs, zg with
          | [], _ => exact Nat.zero_le _
          | [_], _ => exact Nat.le_refl _
          | _ :: _ :: _, zg => cases zg
        refine ⟨M, ss, ⟨p1, p2, fun i j o o' a h1 h2 h3 h4 => ?_, S.there⟩, ?_⟩
        · obtain ⟨i1, w1, _⟩ := p3 i o a h1 h3
          obtain ⟨i2, w2, _⟩ := p3 j o' a h2 h4
          match bs, one, w1, w2 with
          | [b], _, w1, w2 =>
            have e1 := List.mem_singleton.mp w1
            have e2 := List.mem_singleton.mp w2
            have := e1.trans e2.symm
            simp at this
            exact this.1
        · simp only [zf]
          refine fun v H' M' A fr => h v H' M' (S.called r z A zg) ⟨fr.1, ?_⟩
          cases rv with
          | val p => trivial
          | own o =>
            obtain ⟨a, f1, f2, f3, f4⟩ := fr.2
            exact ⟨a, f1, f2, S.called r z f3 zg, f4⟩
    | exc x e' =>
      simp only [zf] at h
      cases zg : giveBack bs e' e with
      | none => simp only [zg] at h
      | some e2 =>
        simp only [zg] at h
        have one : bs.length ≤ 1 := by
          match bs, zg with
          | [], _ => exact Nat.zero_le _
          | [_], _ => exact Nat.le_refl _
          | _ :: _ :: _, zg => cases zg
        refine ⟨M, ss, ⟨p1, p2, fun i j o o' a h1 h2 h3 h4 => ?_, S.there⟩, ?_⟩
        · obtain ⟨i1, w1, _⟩ := p3 i o a h1 h3
          obtain ⟨i2, w2, _⟩ := p3 j o' a h2 h4
          match bs, one, w1, w2 with
          | [b], _, w1, w2 =>
            have e1 := List.mem_singleton.mp w1
            have e2 := List.mem_singleton.mp w2
            have := e1.trans e2.symm
            simp at this
            exact this.1
        · simp only [zf]
          exact fun cls d H' M' A xr => h cls d H' M' (S.called r z A zg) xr
end
end QB

namespace QB
open PySem L2
/-! ### how arguments come to parameters -/
inductive Src where
  | pos (i : Nat) | kw (i : Nat) | dfl (i : Nat)
  deriving DecidableEq
def Src.get {α : Type} (us ws ds : List α) : Src → Option α
  | .pos i => us[i]?
  | .kw i => ws[i]?
  | .dfl i => ds[i]?
def pick {α : Type} (src : List Src) (us ws ds : List α) : List α := src.filterMap (Src.get us ws ds)
theorem pick_paired {α β : Type} {R : α → β → Prop} {us ws ds : List α} {vs zs es : List β} (h1 : Paired R us vs) (h2 : Paired R ws zs) (h3 : Paired R ds es) : ∀ src, Paired R (pick src us ws ds) (pick src vs zs es)
  | [] => .nil
  | s :: src => by
    have ih := pick_paired h1 h2 h3 src
    have both : ∀ {as : List α} {bs : List β} (i : Nat), Paired R as bs → (as[i]? = none ∧ bs[i]? = none) ∨ ∃ a b, as[i]? = some a ∧ bs[i]? = some b ∧ R a b := fun {as bs} i h => by
      cases q : as[i]? with
      | none =>
        refine .inl ⟨rfl, ?_⟩
        have h1 := List.getElem?_eq_none_iff.mp q
        have h2 := pairedLen h
        exact List.getElem?_eq_none_iff.mpr (by omega)
      | some a =>
        obtain ⟨b, q', r⟩ := pairedGet h q
        exact .inr ⟨a, b, rfl, q', r⟩
    have step : (Src.get us ws ds s = none ∧ Src.get vs zs es s = none) ∨ ∃ a b, Src.get us ws ds s = some a ∧ Src.get vs zs es s = some b ∧ R a b := by
      cases s with
      | pos i => exact both i h1
      | kw i => exact both i h2
      | dfl i => exact both i h3
    unfold pick at ih ⊢
    rcases step with ⟨e1, e2⟩ | ⟨a, b, e1, e2, r⟩
    · rw [List.filterMap_cons_none e1, List.filterMap_cons_none e2]; exact ih
    · rw [List.filterMap_cons_some e1, List.filterMap_cons_some e2]; exact .cons r ih
structure Shape where
  n : Nat
  ks : List Str
  src : List Src
  dfl : List PV
structure FnE where
  name : Str
  ps : List Str
  bor : List Bool
  sem : FSem
  shapes : List Shape
def ShapeOk (K : PySem.W.Frag) (ca : Str → Addr) (fd : FuncData) (ps : List Str) (s : Shape) : Prop :=
  ∃ dvs its, Paired (fun p v => KRep K ca p v) s.dfl dvs ∧ KBn K fd ps s.n s.ks (fun us ws => pick s.src us ws its) (fun vs zs => pick s.src vs zs dvs)
def FnE.Ok (rp : Bool) (X : Cx) (ca : Str → Addr) (lvl : Nat) (E : FnE) : Prop := ∃ f fd k, k ≤ lvl ∧ X.mg E.name = some (.ref f) ∧ PySem.W.keepIn X.K (.ref f) = true ∧
  FnR rp X.prog X.w X.K X.mg X.base k f fd E.ps (spF X.K ca E.ps.length E.sem) ∧ ∀ s ∈ E.shapes, ShapeOk X.K ca fd E.ps s
section
variable {rp : Bool} {X : Cx} {k n : Nat} {f : Addr} {fd : FuncData} {ps ks : List Str} {sp : Sp} {E : St → XK} {x : Str} {p pos : Pos} {es : List Expr} {kws : List Keyword} {t tk : TA} {g : List Value → List Value → List Value} {gV : List V → List V → List V}
theorem run_fnG {pins : List (Addr × Obj)} {σ : St} {H : Hp} {s : Shared} {Q : VK} {us ws : List Value} {vs zs : List V} (F : FnR rp X.prog X.w X.K X.mg X.base k f fd ps sp) (hgd : rp = true → X.A.guards = some []) (hr : Room k X.A) (hb : KBn X.K fd ps n ks g gV) (hx : PassesAt (L2.CX X.prog X.w) X σ (E σ))
    (I : Inv X pins σ H s) (r : Vals vs us) (rz : Vals zs ws) (l1 : vs.length = n) (l2 : zs.length = ks.length) (h : sp (gV vs zs) H Q (E σ)) : wpAny (model X.prog X.w) X.A (call (.ref f) us (ks.zip ws)) (EP X pins σ Q) X.xe s := by
  have r2 := hb.rel r rz
  refine wpAny_call (codeAny_mono (F.run X.A X.stack s H ⟨us, ks.zip ws⟩ (g us ws) (gV vs zs) Q (E σ) hgd hr I.env0 (hb.to s us ws I.kIn (r.length.symm.trans l1) (rz.length.symm.trans l2)) r2 h) fun r s' hq => ?_)
  cases r with
  | error e => exact hx pins H s e s' I hq
  | ok fl =>
    cases fl with
    | ret u => exact I.after hq
    | next => exact False.elim hq
    | brk => exact False.elim hq
    | cont => exact False.elim hq
def tCallG (n m : Nat) (sp : Sp) (gV : List V → List V → List V) (E : St → XK) (t tk : TA) : TE := fun σ H Q => t σ H fun vs H1 => tk σ H1 fun zs H2 => vs.length = n ∧ zs.length = m ∧ sp (gV vs zs) H2 Q (E σ)
theorem kwAll : ∀ {kws : List Keyword} {env : Env}, (∀ q ∈ kws, q.arg.isSome = true) → (backToKw pos (keywordEach kws env)).all (·.1.isSome) = true ∧ (backToKw pos (keywordEach kws env)).any (·.1.isNone) = false ∧ (backToKw pos (keywordEach kws env)).filterMap (·.1) = kws.filterMap (·.arg)
  | [], _, _ => ⟨rfl, rfl, rfl⟩
  | ⟨a, v, q⟩ :: kws, env, h => by
    obtain ⟨h1, h2, h3⟩ := kwAll (kws := kws) (env := env) fun q hq => h q (List.mem_cons_of_mem _ hq)
    have h0 := h _ (List.mem_cons_self ..)
    cases a with
    | none => cases h0
    | some a =>
      refine ⟨?_, ?_, ?_⟩
      · show (true && (backToKw pos (keywordEach kws env)).all (·.1.isSome)) = true
        rw [h1]; rfl
      · show (false || (backToKw pos (keywordEach kws env)).any (·.1.isNone)) = false
        rw [h2]; rfl
      · show a :: (backToKw pos (keywordEach kws env)).filterMap (·.1) = a :: kws.filterMap (·.arg)
        rw [h3]
theorem pe_callG {e : Expr} (F : FnR rp X.prog X.w X.K X.mg X.base k f fd ps sp) (hgd : rp = true → X.A.guards = some []) (hr : Room k X.A) (hg : Gl X x) (hm : X.mg x = some (.ref f)) (hk : PySem.W.keepIn X.K (.ref f) = true) (hb : KBn X.K fd ps n ks g gV) (hx : ∀ σ, PassesAt (L2.CX X.prog X.w) X σ (E σ))
    (ha : PA X (e :: es) t) (hkw : PK X kws tk) (hs : noStars (e :: es) = true) (hq : ∀ q ∈ kws, q.arg.isSome = true) (hks : kws.filterMap (·.arg) = ks) (hdb : (x == ("__debug__" : Str)) = false) :
    PE X (.Call (.Name x p) (e :: es) kws pos) (tCallG n ks.length sp gV E t tk) := by
  refine ⟨fun pins s σ H Q I h => ?_⟩
  obtain ⟨k1, k2, k3⟩ := kwAll (pos := pos) (env := X.env) hq
  refine wpAny_Call_Name_kw (ld_glob I hg hm ?_ hdb)
  have hs' := hs
  unfold noStars at hs'
  rw [List.all_cons, Bool.and_eq_true] at hs'
  have hst := star_cons (es := es) (env := X.env) (show isStar e = false by simpa using hs'.1)
  refine PySem.W.callWith_KW (h₀ := X.base) I.ok.mod.kin hk k1 (thn (ha.run pos pins s σ H _ I h) fun us s1 ⟨vs, H1, I1, r, q⟩ => ?_) (by rw [noStars_any hs, k2]; rfl) hst
  refine thn (hkw.run pos pins s1 σ H1 _ I1 q) fun ws s2 ⟨zs, H2, I2, rz, l1, l2, q2⟩ => ⟨I2.kIn, ?_⟩
  rw [k3, hks]
  exact run_fnG F hgd hr hb (hx σ) I2 r rz l1 l2 q2
theorem pe_callG0 (F : FnR rp X.prog X.w X.K X.mg X.base k f fd ps sp) (hgd : rp = true → X.A.guards = some []) (hr : Room k X.A) (hg : Gl X x) (hm : X.mg x = some (.ref f)) (hk : PySem.W.keepIn X.K (.ref f) = true) (hb : KBn X.K fd ps n ks g gV) (hx : ∀ σ, PassesAt (L2.CX X.prog X.w) X σ (E σ))
    (hkw : PK X kws tk) (hq : ∀ q ∈ kws, q.arg.isSome = true) (hks : kws.filterMap (·.arg) = ks) (hdb : (x == ("__debug__" : Str)) = false) :
    PE X (.Call (.Name x p) [] kws pos) (tCallG n ks.length sp gV E tNil tk) := by
  refine ⟨fun pins s σ H Q I h => ?_⟩
  obtain ⟨k1, k2, k3⟩ := kwAll (pos := pos) (env := X.env) hq
  refine wpAny_Call_Name_kw (ld_glob I hg hm ?_ hdb)
  refine PySem.W.callWith_KW0 (h₀ := X.base) I.ok.mod.kin hk k1 ?_ (by rw [k2]; rfl)
  refine thn (hkw.run pos pins s σ H _ I h) fun ws s2 ⟨zs, H2, I2, rz, l1, l2, q2⟩ => ⟨I2.kIn, ?_⟩
  rw [k3, hks]
  exact run_fnG (us := []) (vs := []) F hgd hr hb (hx σ) I2 .nil rz l1 l2 q2
end
def JK (X : Cx) (ca : Str → Addr) (m : EM (List Opd)) (kws : List Keyword) : Prop := ∀ W, Takes X W → PK X kws (Rd X.K ca m (relOs X.K ca) W)
section
variable {rp : Bool} {X : Cx} {ca : Str → Addr}
theorem PK.imp {kws : List Keyword} {t t' : TA} (h : PK X kws t) (i : ∀ σ H Q, t' σ H Q → t σ H Q) : PK X kws t' := ⟨fun pos pins s σ H Q I q => h.run pos pins s σ H Q I (i σ H Q q)⟩
theorem jk_nil : JK X ca opdsNil [] := fun W _ => PK.imp pk_nil fun σ H Q ⟨c, M, e, S, h⟩ => h.ret S .nil
theorem jk_cons {nm : Option Str} {e : Expr} {kpos : Pos} {kws : List Keyword} {m : EM Opd} {ms : EM (List Opd)} (h : JO X ca m e) (hr : JK X ca ms kws) : JK X ca (opdsCons m ms) (⟨nm, e, kpos⟩ :: kws) := fun W tk =>
  PK.imp (pk_cons (h W tk) (hr W tk)) fun σ H Q ⟨c, M, e, S, q⟩ => RdAt.bind q S fun o v H1 M1 e1 S1 _ _ r q1 =>
    RdAt.bind q1 S1 fun os vs H2 M2 e2 S2 sm _ r2 q2 => q2.ret S2 (.cons (relO.mono r sm) (relOs.mono r2 (Same.refl _)))
/-- the call of a def -/
def callK (F : FSem) (np : Nat) (s : Shape) (os zs : List Opd) : EM RV :=
  if decide (os.length = s.n ∧ zs.length = s.ks.length ∧ (pick s.src os zs (s.dfl.map .pv)).length = np) then callE F (pick s.src os zs (s.dfl.map .pv)) else EM.bad
def callM (F : FSem) (np : Nat) (s : Shape) (ms mk : EM (List Opd)) : EM RV := ms.bind fun os => mk.bind fun zs => callK F np s os zs
theorem call_at {K : PySem.W.Frag} {W : WX} {F : FSem} {np : Nat} {s : Shape} {os zs : List Opd} {vs ws dvs : List V} {c : Fx} {M : Addr → Prop} {σ : St} {H : Hp} {e : En} {Q : VK} (q : RdAt K ca c (callK F np s os zs) (relV K ca) W e σ Q) (S : Sim K ca c M σ H e)
    (r1 : relOs K ca c M σ H e os vs) (r2 : relOs K ca c M σ H e zs ws) (hd : Paired (fun p v => KRep K ca p v) s.dfl dvs) : vs.length = s.n ∧ ws.length = s.ks.length ∧ spF K ca np F (pick s.src vs ws dvs) H Q (WE W σ) := by
  unfold callK at q
  obtain ⟨hz, q⟩ := RdAt.ite q
  obtain ⟨h1, h2, h3⟩ := of_decide_eq_true hz
  have r3 : relOs K ca c M σ H e (s.dfl.map .pv) dvs := by
    have go : ∀ {ps : List PV} {vs : List V}, Paired (fun p v => KRep K ca p v) ps vs → relOs K ca c M σ H e (ps.map .pv) vs := by
      intro ps vs h
      induction h with
      | nil => exact .nil
      | cons r t ih => exact .cons (r _) ih
    exact go hd
  have rp : relOs K ca c M σ H e (pick s.src os zs (s.dfl.map .pv)) (pick s.src vs ws dvs) := pick_paired r1 r2 r3 s.src
  exact ⟨(pairedLen r1).symm.trans h1, (pairedLen r2).symm.trans h2, call_sp q S rp ((pairedLen rp).symm.trans h3)⟩
theorem je_call {E : FnE} {lvl : Nat} {s : Shape} {a : Expr} {es : List Expr} {kws : List Keyword} {ms mk : EM (List Opd)} {p pos : Pos} (ok : E.Ok rp X ca lvl) (hgd : rp = true → X.A.guards = some []) (hr : Room lvl X.A) (hg : Gl X E.name) (hs : s ∈ E.shapes) (hst : noStars (a :: es) = true)
    (hq : ∀ q ∈ kws, q.arg.isSome = true) (hks : kws.filterMap (·.arg) = s.ks) (hdb : (E.name == ("__debug__" : Str)) = false) (ha : JA X ca ms (a :: es)) (hk : JK X ca mk kws) : JE X ca (callM E.sem E.ps.length s ms mk) (.Call (.Name E.name p) (a :: es) kws pos) := fun W tk => by
  obtain ⟨f, fd, k, hl, hm, kp, F, sh⟩ := ok
  obtain ⟨dvs, its, hd, hb⟩ := sh s hs
  refine PE.imp (pe_callG F hgd (hr.mono hl) hg hm kp hb (fun σ => passAt tk σ) (ha W tk) (hk W tk) hst hq hks hdb) fun σ H Q ⟨c, M, e, S, q⟩ => ?_
  refine RdAt.bind q S fun os vs H1 M1 e1 S1 _ _ r1 q1 => ?_
  refine RdAt.bind q1 S1 fun zs ws H2 M2 e2 S2 sm _ r2 q2 => ?_
  exact call_at q2 S2 (relOs.mono r1 sm) (relOs.mono r2 (Same.refl _)) hd
theorem je_call0 {E : FnE} {lvl : Nat} {s : Shape} {kws : List Keyword} {mk : EM (List Opd)} {p pos : Pos} (ok : E.Ok rp X ca lvl) (hgd : rp = true → X.A.guards = some []) (hr : Room lvl X.A) (hg : Gl X E.name) (hs : s ∈ E.shapes)
    (hq : ∀ q ∈ kws, q.arg.isSome = true) (hks : kws.filterMap (·.arg) = s.ks) (hdb : (E.name == ("__debug__" : Str)) = false) (hk : JK X ca mk kws) : JE X ca (callM E.sem E.ps.length s opdsNil mk) (.Call (.Name E.name p) [] kws pos) := fun W tk => by
  obtain ⟨f, fd, k, hl, hm, kp, F, sh⟩ := ok
  obtain ⟨dvs, its, hd, hb⟩ := sh s hs
  refine PE.imp (pe_callG0 F hgd (hr.mono hl) hg hm kp hb (fun σ => passAt tk σ) (hk W tk) hq hks hdb) fun σ H Q ⟨c, M, e, S, q⟩ => ?_
  have q1 : RdAt X.K ca c (mk.bind fun zs => callK E.sem E.ps.length s [] zs) (relV X.K ca) W e σ Q := q
  refine RdAt.bind q1 S fun zs ws H2 M2 e2 S2 sm _ r2 q2 => ?_
  exact call_at q2 S2 .nil (relOs.mono r2 (Same.refl _)) hd
end
end QB

namespace QB
open PySem L2
/-! ### list comprehensions -/
def wipeE (e : En) : List Nat → En
  | [] => e
  | v :: vs => (wipeE e vs).set v none
def restE (e e1 : En) : List Nat → En
  | [] => e
  | v :: vs => (restE e e1 vs).set v (e1.getD v none)
def plainO : Option Slot → Bool
  | none => true
  | some (.val _) => true
  | _ => false
def cleanE (e : En) (vs : List Nat) : Bool := vs.all fun v => plainO (e.getD v none)
section
variable {ca : Str → Addr} {K : PySem.W.Frag} {c : Fx} {M M' M1 : Addr → Prop} {σ σ' σ1 : St} {H H' H1 : Hp} {e e' e1 : En} {W : WX}
theorem wipeE_length : ∀ vs : List Nat, (wipeE e vs).length = e.length
  | [] => rfl
  | v :: vs => by unfold wipeE; rw [List.length_set, wipeE_length vs]
theorem wipe_get : ∀ {vs : List Nat} {i : Nat}, (wipe σ vs)[i]? = if i ∈ vs then (σ[i]?).map fun _ => none else σ[i]?
  | [], i => by simp [wipe]
  | v :: vs, i => by
    unfold wipe
    rw [List.getElem?_set]
    by_cases h : v = i
    · subst h
      simp only [wipe_length, List.mem_cons, true_or, if_true]
      by_cases hl : v < σ.length
      · simp [hl]
      · simp [hl]
    · rw [if_neg h, wipe_get]
      have : (i ∈ v :: vs) ↔ i ∈ vs := by simp [Ne.symm h]
      simp only [this]
theorem wipeE_get : ∀ {vs : List Nat} {i : Nat}, (wipeE e vs)[i]? = if i ∈ vs then (e[i]?).map fun _ => none else e[i]?
  | [], i => by simp [wipeE]
  | v :: vs, i => by
    unfold wipeE
    rw [List.getElem?_set]
    by_cases h : v = i
    · subst h
      simp only [wipeE_length, List.mem_cons, true_or, if_true]
      by_cases hl : v < e.length
      · simp [hl]
      · simp [hl]
    · rw [if_neg h, wipeE_get]
      have : (i ∈ v :: vs) ↔ i ∈ vs := by simp [Ne.symm h]
      simp only [this]
theorem wipeE_some {vs : List Nat} {i : Nat} {s : Slot} (h : (wipeE e vs)[i]? = some (some s)) : i ∉ vs ∧ e[i]? = some (some s) := by
  rw [wipeE_get] at h
  split at h
  · cases q : e[i]? with
    | none => rw [q] at h; cases h
    | some o => rw [q] at h; cases h
  · exact ⟨by assumption, h⟩
theorem wipe_off {vs : List Nat} {i : Nat} (h : i ∉ vs) : (wipe σ vs)[i]? = σ[i]? := by rw [wipe_get, if_neg h]
theorem wipe_wipe {vs ws : List Nat} (h : ∀ i ∈ ws, i ∈ vs) : wipe (wipe σ ws) vs = wipe σ vs := by
  apply List.ext_getElem?
  intro i
  rw [wipe_get, wipe_get, wipe_get]
  by_cases hi : i ∈ vs
  · rw [if_pos hi, if_pos hi]
    split
    · cases σ[i]? <;> rfl
    · rfl
  · rw [if_neg hi, if_neg hi, if_neg fun z => hi (h i z)]
theorem Off.wipe {ws vs : List Nat} (h : Off ws σ σ') (hs : ∀ i ∈ ws, i ∈ vs) : L2.wipe σ' vs = L2.wipe σ vs := by
  apply List.ext_getElem?
  intro i
  rw [wipe_get, wipe_get]
  by_cases hi : i ∈ vs
  · rw [if_pos hi, if_pos hi]
    by_cases hl : i < σ.length
    · have hl' : i < σ'.length := by rw [h.1]; exact hl
      rw [List.getElem?_eq_getElem hl, List.getElem?_eq_getElem hl']; rfl
    · have hl' : ¬ i < σ'.length := by rw [h.1]; exact hl
      rw [List.getElem?_eq_none (by omega), List.getElem?_eq_none (by omega)]
  · rw [if_neg hi, if_neg hi, h.2 i fun z => hi (hs i z)]
theorem Sim.wiped (S : Sim K ca c M σ H e) {vs : List Nat} (hp : ∀ p ∈ c.par, p.1 ∉ vs) : Sim K ca c M (wipe σ vs) H (wipeE e vs) where
  len := by rw [wipeE_length, wipe_length]; exact S.len
  slot := fun i s h => by
    obtain ⟨h1, h2⟩ := wipeE_some h
    obtain ⟨v, e1, r⟩ := S.slot i s h2
    exact ⟨v, by rw [wipe_off h1]; exact e1, r⟩
  inj := fun i j s t a h1 h2 k1 k2 q1 q2 => by
    obtain ⟨n1, h1⟩ := wipeE_some h1
    obtain ⟨n2, h2⟩ := wipeE_some h2
    rw [wipe_off n1] at q1
    rw [wipe_off n2] at q2
    exact S.inj i j s t a h1 h2 k1 k2 q1 q2
  ext := S.ext
  frame := S.frame
  ownd := fun i s a h k q => by
    obtain ⟨n1, h1⟩ := wipeE_some h
    rw [wipe_off n1] at q
    exact S.ownd i s a h1 k q
  par := fun p hq => by
    obtain ⟨q1, s, q2, q3⟩ := S.par p hq
    have n := hp p hq
    exact ⟨by rw [wipe_off n]; exact q1, s, by rw [wipeE_get, if_neg n]; exact q2, q3⟩
  there := S.there
  cthere := S.cthere
  sub := S.sub
theorem restE_length : ∀ vs : List Nat, (restE e e1 vs).length = e.length
  | [] => rfl
  | v :: vs => by unfold restE; rw [List.length_set, restE_length vs]
theorem restE_get : ∀ {vs : List Nat} {i : Nat}, i < e.length → (restE e e1 vs)[i]? = if i ∈ vs then some (e1.getD i none) else e[i]?
  | [], i, _ => by simp [restE]
  | v :: vs, i, hl => by
    unfold restE
    rw [List.getElem?_set]
    by_cases h : v = i
    · subst h
      simp [restE_length, hl]
    · rw [if_neg h, restE_get hl]
      have : (i ∈ v :: vs) ↔ i ∈ vs := by simp [Ne.symm h]
      simp only [this]
theorem restE_some {vs : List Nat} {i : Nat} {s : Slot} (h : (restE e e1 vs)[i]? = some (some s)) : (i ∈ vs ∧ e1[i]? = some (some s)) ∨ (i ∉ vs ∧ e[i]? = some (some s)) := by
  have hl : i < e.length := by
    have := (List.getElem?_eq_some_iff.mp h).1
    rwa [restE_length] at this
  rw [restE_get hl] at h
  split at h
  · rename_i hi
    refine .inl ⟨hi, ?_⟩
    rw [List.getD_eq_getElem?_getD] at h
    cases q : e1[i]? with
    | none => rw [q] at h; cases h
    | some o => rw [q] at h; cases h; rfl
  · exact .inr ⟨by assumption, h⟩
theorem clean_val {vs : List Nat} {i : Nat} {s : Slot} (h : cleanE e vs = true) (hi : i ∈ vs) (q : e[i]? = some (some s)) : ∃ p, s = .val p := by
  have := List.all_eq_true.mp h i hi
  rw [List.getD_eq_getElem?_getD, q] at this
  cases s with
  | val p => exact ⟨p, rfl⟩
  | own o => cases this
  | par o => cases this
theorem clean_par (S : Sim K ca c M σ H e) {vs : List Nat} (h : cleanE e vs = true) : ∀ p ∈ c.par, p.1 ∉ vs := fun p hp hi => by
  obtain ⟨_, s, q2, q3⟩ := S.par p hp
  obtain ⟨x, rfl⟩ := clean_val h hi q2
  cases q3
theorem Sim.restored (S1 : Sim K ca c M1 σ H1 e1) {vs : List Nat} (S : Sim K ca c M (wipe σ vs) H e) (sm : Same (hid H1 M1) (hid H M)) (hcl : cleanE e1 vs = true) : Sim K ca c M σ H (restE e e1 vs) where
  len := by rw [restE_length, S.len, wipe_length]
  slot := fun i s h => by
    rcases restE_some h with ⟨hi, q⟩ | ⟨hi, q⟩
    · obtain ⟨p, rfl⟩ := clean_val hcl hi q
      obtain ⟨v, e2, r⟩ := S1.slot i _ q
      exact ⟨v, e2, Rep.mono sm r⟩
    · obtain ⟨v, e2, r⟩ := S.slot i s q
      rw [wipe_off hi] at e2
      exact ⟨v, e2, r⟩
  inj := fun i j s t a h1 h2 k1 k2 q1 q2 => by
    rcases restE_some h1 with ⟨hi, q⟩ | ⟨hi, q⟩
    · obtain ⟨p, rfl⟩ := clean_val hcl hi q; cases k1
    · rcases restE_some h2 with ⟨hj, q'⟩ | ⟨hj, q'⟩
      · obtain ⟨p, rfl⟩ := clean_val hcl hj q'; rcases k2 with k | k <;> cases k
      · exact S.inj i j s t a q q' k1 k2 (by rw [wipe_off hi]; exact q1) (by rw [wipe_off hj]; exact q2)
  ext := S.ext
  frame := S.frame
  ownd := fun i s a h k q => by
    rcases restE_some h with ⟨hi, q'⟩ | ⟨hi, q'⟩
    · obtain ⟨p, rfl⟩ := clean_val hcl hi q'; cases k
    · exact S.ownd i s a q' k (by rw [wipe_off hi]; exact q)
  par := fun p hq => by
    obtain ⟨q1, s, q2, q3⟩ := S.par p hq
    have n := clean_par S1 hcl p hq
    rw [wipe_off n] at q1
    refine ⟨q1, s, ?_, q3⟩
    rw [restE_get (List.getElem?_eq_some_iff.mp q2).1, if_neg n]
    exact q2
  there := S.there
  cthere := S.cthere
  sub := S.sub
/-- no slot that may change holds D -/
def NoD (σ : St) (e : En) (D : Addr) : Prop := ∀ (i : Nat) s, e[i]? = some (some s) → s.chg = true → σ[i]? ≠ some (some (.ref D))
/-- the block's state: the new list at D, hidden, holds ps -/
structure BSt (K : PySem.W.Frag) (ca : Str → Addr) (c : Fx) (D : Addr) (M : Addr → Prop) (σ : St) (H : Hp) (e : En) (ps : List PV) : Prop where
  sim : Sim K ca c M σ H e
  no0 : ¬ c.M0 D
  hid : M D
  noD : NoD σ e D
  lst : ∃ vs, H D = some (.lst vs) ∧ Reps K ca (QB.hid H M) ps vs
theorem pin_chg {s : Slot} (h : s.pin = true) : s.chg = true := by cases s <;> first | rfl | cases h
theorem BSt.step {D : Addr} {ps : List PV} (B : BSt K ca c D M σ H e ps) (S' : Sim K ca (Fx.at M σ H e c.par) M' σ' H' e') : BSt K ca c D M' σ' H' e' ps := by
  have nch : ¬ (Fx.at M σ H e c.par).ch D := fun ⟨i, s, h1, h2, h3⟩ => B.noD i s h1 h2 h3
  obtain ⟨m, q⟩ := S'.frame D B.hid nch
  obtain ⟨vs, h1, h2⟩ := B.lst
  refine ⟨B.sim.backH S', B.no0, m, fun i s h k z => ?_, vs, q.trans h1, h2.mono S'.ext⟩
  rcases S'.ownd i s D h k z with w | w
  · exact nch w
  · exact w B.hid
theorem BSt.wiped {D : Addr} {ps : List PV} {vs : List Nat} (B : BSt K ca c D M σ H e ps) (hp : ∀ p ∈ c.par, p.1 ∉ vs) : BSt K ca c D M (wipe σ vs) H (wipeE e vs) ps :=
  ⟨B.sim.wiped hp, B.no0, B.hid, fun i s h k z => by
    obtain ⟨n, q⟩ := wipeE_some h
    rw [wipe_off n] at z
    exact B.noD i s q k z, B.lst⟩
theorem hid_upd {D : Addr} {o : HO} (h : M D) : hid (upd H D o) M = hid H M := by
  funext a
  unfold hid
  by_cases ha : M a
  · simp [ha]
  · have : a ≠ D := fun z => ha (z ▸ h)
    simp [ha, upd_ne this]
theorem BSt.app {D : Addr} {ps : List PV} {p : PV} {y : V} {acc : List V} (B : BSt K ca c D M σ H e ps) (r : Rep K ca (QB.hid H M) p y) (ha : H D = some (.lst acc)) : BSt K ca c D M σ (upd H D (.lst (acc ++ [y]))) e (ps ++ [p]) := by
  have hh := hid_upd (H := H) (o := .lst (acc ++ [y])) B.hid
  have S := B.sim
  refine ⟨⟨S.len, fun i s h => ?_, S.inj, by rw [hh]; exact S.ext, fun a h0 hn => ?_, S.ownd, S.par, fun a h => upd_live (S.there a h), fun a h => upd_live (S.cthere a h), S.sub⟩, B.no0, B.hid, B.noD, acc ++ [y], upd_same, ?_⟩
  · obtain ⟨v, e1, rs⟩ := S.slot i s h
    refine ⟨v, e1, ?_⟩
    have ne : s.chg = true → ∀ b, v = .ref b → upd H D (.lst (acc ++ [y])) b = H b := fun k b eb => upd_ne fun z => by
      subst eb; subst z
      exact B.noD i s h k e1
    cases s with
    | val q => show Rep K ca (QB.hid _ M) q v; rw [hh]; exact rs
    | own m => obtain ⟨b, eb, mb, rr⟩ := rs; refine ⟨b, eb, mb, ?_⟩; rw [hh]; exact rr.mono (Same.refl _) (ne rfl b eb)
    | par m => obtain ⟨b, eb, mb, rr⟩ := rs; refine ⟨b, eb, mb, ?_⟩; rw [hh]; exact rr.mono (Same.refl _) (ne rfl b eb)
  · obtain ⟨m, q⟩ := S.frame a h0 hn
    refine ⟨m, ?_⟩
    rw [upd_ne fun z => B.no0 (by rw [← z]; exact h0)]
    exact q
  · rw [hh]
    obtain ⟨vs, h1, h2⟩ := B.lst
    rw [ha] at h1
    cases h1
    exact h2.append (Reps.one r)
theorem BSt.start (S1 : Sim K ca c M1 σ H1 e1) {D : Addr} (hD : H1 D = none) : BSt K ca c D (addM M1 D) σ (upd H1 D (.lst [])) e1 [] :=
  ⟨S1.allocA hD, S1.fresh0 hD, .inr rfl, fun i s h k z => by
    have w := (S1.chg_at h (.inl k) z).2
    rw [hD] at w
    exact absurd w (by decide), [], upd_same, rfl⟩
/-- the list is handed on -/
theorem BSt.give {D : Addr} {ps : List PV} (B : BSt K ca c D M σ H e ps) : ∃ M', Sim K ca c M' σ H e ∧ relV K ca c M' σ H e (.own (.lst ps)) (.ref D) := by
  have S := B.sim
  have em : addM (subM M D) D = M := by
    funext a
    apply propext
    constructor
    · rintro (h | h)
      · exact h.1
      · rw [h]; exact B.hid
    · intro h
      by_cases ha : a = D
      · exact .inr ha
      · exact .inl ⟨h, ha⟩
  have sm : Same (QB.hid H M) (QB.hid H (subM M D)) := hid_less fun b z => z.1
  obtain ⟨vs, h1, h2⟩ := B.lst
  refine ⟨subM M D, ⟨S.len, fun i s h => ?_, S.inj, S.ext.trans sm, fun a h0 hn => ?_, S.ownd, S.par, fun a h => S.there a h.1, S.cthere, S.sub⟩, ⟨D, vs, rfl, hid_of.mpr ⟨h1, fun z => z.2 rfl⟩, h2.mono sm⟩, D, rfl, fun z => z.2 rfl, by rw [em]; exact S, vs, h1, by rw [em]; exact h2⟩
  · obtain ⟨v, e1, rs⟩ := S.slot i s h
    refine ⟨v, e1, ?_⟩
    have ne : s.chg = true → ∀ b, v = .ref b → b ≠ D := fun k b eb z => by
      subst eb; subst z
      exact B.noD i s h k e1
    cases s with
    | val q => exact Rep.mono sm rs
    | own m => obtain ⟨b, eb, mb, rr⟩ := rs; exact ⟨b, eb, ⟨mb, ne rfl b eb⟩, rr.mono sm rfl⟩
    | par m => obtain ⟨b, eb, mb, rr⟩ := rs; exact ⟨b, eb, ⟨mb, ne rfl b eb⟩, rr.mono sm rfl⟩
  · obtain ⟨m, q⟩ := S.frame a h0 hn
    exact ⟨⟨m, fun z => B.no0 (by rw [← z]; exact h0)⟩, q⟩
end
/-! #### the meaning -/
def lcTurn (b : Bnd) (tt : EM Bool) (vs : List Nat) (inner : EM (List PV)) (p : PV) : EM (List PV) := fun e => match b p e with
  | none => .bad
  | some e1 => match tt e1 with
    | .ok true e2 => match inner e2 with
      | .ok rs e3 => .ok rs (wipeE e3 vs)
      | _ => .bad
    | .ok false e2 => .ok [] (wipeE e2 vs)
    | _ => .bad
def lcLoop (turn : PV → EM (List PV)) : List PV → EM (List PV)
  | [], e => .ok [] e
  | p :: ps, e => match turn p e with
    | .ok rs e1 => match lcLoop turn ps e1 with
      | .ok ss e2 => .ok (rs ++ ss) e2
      | _ => .bad
    | _ => .bad
def eltM (te : EM RV) : EM (List PV) := fun e => match te e with
  | .ok r e' => .ok [r.pv] e'
  | _ => .bad
/-- the second clause -/
def lcIn (m : EM (List PV)) (b : Bnd) (tt : EM Bool) (vs : List Nat) (inner : EM (List PV)) : EM (List PV) := fun e => match m e with
  | .ok xs e' => lcLoop (lcTurn b tt vs inner) xs (wipeE e' vs)
  | _ => .bad
def lcM (m : EM (List PV)) (b : Bnd) (tt : EM Bool) (vs : List Nat) (inner : EM (List PV)) : EM RV := fun e => match m e with
  | .ok xs e1 => if cleanE e1 vs then match lcLoop (lcTurn b tt vs inner) xs (wipeE e1 vs) with
    | .ok rs e2 => if szOk rs.length then .ok (.own (.lst rs)) (restE e2 e1 vs) else .bad
    | _ => .bad else .bad
  | .exc x e1 => .exc x e1
  | .bad => .bad
def noW : WX := fun _ _ _ _ => False
section
variable {X : Cx} {ca : Str → Addr} {K : PySem.W.Frag} {c : Fx} {M M' M1 : Addr → Prop} {σ σ' σ1 : St} {H H' H1 : Hp} {e e' e1 : En} {W : WX}
theorem lcLoop_cons {turn : PV → EM (List PV)} {p : PV} {ps rs : List PV} (h : lcLoop turn (p :: ps) e = .ok rs e') : ∃ r1 e1 r2, turn p e = .ok r1 e1 ∧ lcLoop turn ps e1 = .ok r2 e' ∧ rs = r1 ++ r2 := by
  unfold lcLoop at h
  cases z : turn p e with
  | ok r1 e1 =>
    simp only [z] at h
    cases z2 : lcLoop turn ps e1 with
    | ok r2 e2 => simp only [z2] at h; cases h; exact ⟨r1, e1, r2, rfl, z2, rfl⟩
    | exc x e2 => simp only [z2] at h; cases h
    | bad => simp only [z2] at h; cases h
  | exc x e1 => simp only [z] at h; cases h
  | bad => simp only [z] at h; cases h
theorem lcTurn_inv {b : Bnd} {tt : EM Bool} {vs : List Nat} {inner : EM (List PV)} {p : PV} {rs : List PV} (h : lcTurn b tt vs inner p e = .ok rs e') :
    ∃ e1 k e2, b p e = some e1 ∧ tt e1 = .ok k e2 ∧ ((k = true ∧ ∃ e3, inner e2 = .ok rs e3 ∧ e' = wipeE e3 vs) ∨ (k = false ∧ rs = [] ∧ e' = wipeE e2 vs)) := by
  unfold lcTurn at h
  cases z : b p e with
  | none => simp only [z] at h; cases h
  | some e1 =>
    simp only [z] at h
    cases z2 : tt e1 with
    | ok k e2 =>
      cases k with
      | true =>
        simp only [z2] at h
        cases z3 : inner e2 with
        | ok r3 e3 => simp only [z3] at h; cases h; exact ⟨e1, true, e2, rfl, z2, .inl ⟨rfl, e3, z3, rfl⟩⟩
        | exc x e3 => simp only [z3] at h; cases h
        | bad => simp only [z3] at h; cases h
      | false => simp only [z2] at h; cases h; exact ⟨e1, false, e2, rfl, z2, .inr ⟨rfl, rfl, rfl⟩⟩
    | exc x e2 => simp only [z2] at h; cases h
    | bad => simp only [z2] at h; cases h
theorem eltM_inv {te : EM RV} {rs : List PV} (h : eltM te e = .ok rs e') : ∃ r, te e = .ok r e' ∧ rs = [r.pv] := by
  unfold eltM at h
  cases z : te e with
  | ok r e1 => simp only [z] at h; cases h; exact ⟨r, rfl, rfl⟩
  | exc x e1 => simp only [z] at h; cases h
  | bad => simp only [z] at h; cases h
/-- a test, a value within the block -/
theorem BSt.rd {α β : Type} {D : Addr} {ps : List PV} {m : EM α} {rel : RelT α β} {a : α} {P : β → Hp → Prop} (B : BSt K ca c D M σ H e ps) (h : m e = .ok a e')
    (k : ∀ b H' M', BSt K ca c D M' σ H' e' ps → Same (QB.hid H M) (QB.hid H' M') → rel (Fx.at M σ H e c.par) M' σ H' e' a b → P b H') : Rd K ca m rel noW σ H P := by
  refine ⟨_, M, e, B.sim.here, ?_⟩
  unfold RdAt
  rw [h]
  exact fun b H' M' S' r => k b H' M' (B.step S') S'.ext r
/-- one turn's way to its element -/
theorem lc_elt {D : Addr} {ps rs all : List PV} {te : EM RV} {Nx : Hp → Prop} (B : BSt K ca c D M σ H e ps) (h : eltM te e = .ok rs e') (hz : (ps ++ rs).length ≤ sizeLine)
    (k : ∀ H' M', BSt K ca c D M' σ H' e' (ps ++ rs) → Same (QB.hid H M) (QB.hid H' M') → Nx H') : Rd K ca te (relV K ca) noW σ H fun y H4 => ∃ acc, H4 D = some (.lst acc) ∧ acc.length < sizeLine ∧ Nx (upd H4 D (.lst (acc ++ [y]))) := by
  obtain ⟨r, h1, rfl⟩ := eltM_inv h
  refine B.rd h1 fun y H4 M4 B4 sm rr => ?_
  obtain ⟨acc, q1, q2⟩ := B4.lst
  refine ⟨acc, q1, ?_, k _ _ (B4.app rr.1 q1) ?_⟩
  · rw [q2.length]
    rw [List.length_append] at hz
    exact hz
  · rw [hid_upd B4.hid]
    exact sm
/-- what the block's code is judged by -/
def inBlk (X : Cx) (scope : Scope) (P : Cx → Prop) : Prop := ∀ (s : Shared) (H : Hp) (C : Addr) (cl : List (Str × Addr)) (fp : List Addr), P (X.blk s H scope (compEnvC scope cl C X.env) fp)
theorem noW_takes : Takes X noW := fun u s' ⟨a, B, sI, pins, σ, H, cls, d, e, I, nb, up, sky, na, os, ag, w⟩ => w.elim
/-- the tests of a clause -/
inductive Tst where
  | no | one (m : EM Bool)
def Tst.m : Tst → EM Bool
  | .no => EM.ret true
  | .one m => m
def Tst.J (X : Cx) (ca : Str → Addr) : Tst → List Expr → Prop
  | .no, ifs => ifs = []
  | .one m, ifs => ∃ e, ifs = [e] ∧ JT X ca m e
theorem pts_of {t : Tst} {ifs : List Expr} (h : t.J X ca ifs) : PTs X ifs (Rd X.K ca t.m relB noW) := by
  cases t with
  | no =>
    cases h
    refine ⟨fun pins s σ H Q I ⟨c, M, e, S, q⟩ => pts_nil.run pins s σ H Q I ?_⟩
    exact q.ret S rfl
  | one m =>
    obtain ⟨e, rfl, h⟩ := h
    exact pts_one (h noW noW_takes)
theorem tup_par {J : It} {xs : List PV} {i : Nat} {p : PV} (h : xs[i]? = some p) : i < xs.length := (List.getElem?_eq_some_iff.mp h).1
section
/-- the block before turn i -/
def LcAt (K : PySem.W.Frag) (ca : Str → Addr) (c : Fx) (D : Addr) (σw : St) (H1 : Hp) (M1 : Addr → Prop) (turn : PV → EM (List PV)) (xs : List PV) (e2 : En) (rs : List PV) (H : Hp) : Prop := ∃ M e ps r2, BSt K ca c D M σw H e ps ∧ Same (QB.hid H1 M1) (QB.hid H M) ∧ lcLoop turn xs e = .ok r2 e2 ∧ ps ++ r2 = rs
variable {elt tg iter tg1 iter1 : Expr} {ifs ifs1 : List Expr} {scope : Scope} {own : List (Str × Nat)} {pos : Pos} {m m1 : EM (List PV)} {t t1 : Tgt} {ts ts1 : Tst} {te : EM RV}
theorem lc_sem (hg : GOk K ca t.b t.ws (t.g K)) (hvs : ∀ i ∈ t.ws, i ∈ own.map (·.2)) {Q : VK} (h : Rd K ca (lcM m t.b ts.m (own.map (·.2)) (eltM te)) (relV K ca) W σ H Q) :
    tLc (Rd K ca m (relI K ca) W) (t.g K) (Rd K ca ts.m relB noW) (Rd K ca te (relV K ca) noW) (own.map (·.2)) σ H Q := by
  obtain ⟨c, M, e, S, q⟩ := h
  refine ⟨c, M, e, S, ?_⟩
  unfold RdAt lcM at q
  unfold RdAt
  cases z : m e with
  | bad => simp only [z] at q
  | exc x e1 => simp only [z] at q; exact q
  | ok xs e1 =>
    simp only [z] at q
    intro J H1 M1 S1 it D hD
    cases hcl : cleanE e1 (own.map (·.2)) with
    | false => simp only [hcl, Bool.false_eq_true, if_false] at q
    | true =>
    simp only [hcl, if_true] at q
    cases z2 : lcLoop (lcTurn t.b ts.m (own.map (·.2)) (eltM te)) xs (wipeE e1 (own.map (·.2))) with
    | exc x e2 => simp only [z2] at q
    | bad => simp only [z2] at q
    | ok rs e2 =>
    simp only [z2] at q
    cases hz : szOk rs.length with
    | false => simp only [hz, Bool.false_eq_true, if_false] at q
    | true =>
    simp only [hz, if_true] at q
    have hz := of_decide_eq_true hz
    generalize hvv : own.map (·.2) = vs at hcl z2 q hvs ⊢
    have hpar := clean_par S1 hcl
    have B0 := BSt.start (S1.wiped hpar) hD
    refine ⟨fun i mm H => mm = xs.length - i ∧ i ≤ xs.length ∧ LcAt K ca c D (wipe σ vs) H1 M1 (lcTurn t.b ts.m vs (eltM te)) (xs.drop i) e2 rs H,
      ⟨xs.length, by simp, Nat.zero_le _, _, _, [], rs, B0, same_updA hD, z2, rfl⟩, ?_⟩
    rintro i mm H ⟨rfl, hi, M2, e3, ps, r2, B, sm, hl, hrs⟩
    by_cases hlt : i < xs.length
    · refine .inr ⟨it.go H M2 i hlt sm, LcAt K ca c D (wipe σ vs) H1 M1 (lcTurn t.b ts.m vs (eltM te)) (xs.drop (i + 1)) e2 rs,
        fun H' h' => ⟨xs.length - (i + 1), by omega, rfl, hlt, h'⟩, fun x H' y => ?_⟩
      obtain ⟨p, hp, rp⟩ := it.yld H M2 i x H' hlt sm y
      obtain ⟨S', s2, s3, r'⟩ := rp _ _ e3 B.sim.here
      have B' := B.step S'
      rw [drop_get hp] at hl
      obtain ⟨r1, e4, r3, t1, t2, rfl⟩ := lcLoop_cons hl
      obtain ⟨e5, k, e6, u1, u2, u3⟩ := lcTurn_inv t1
      refine hg _ M2 _ H' e3 p x _ e5 B'.sim.here r' u1 fun σ2 S5 off => ⟨?_, ?_⟩
      · rw [off.wipe hvs, wipe_wipe fun _ h => h]
      · have B5 := B'.step S5
        have ew : wipe σ2 vs = wipe σ vs := by rw [off.wipe hvs, wipe_wipe fun _ h => h]
        refine B5.rd u2 fun b H6 M6 B6 sm6 rb => ?_
        cases rb
        rcases u3 with ⟨rfl, e7, v1, rfl⟩ | ⟨rfl, rfl, rfl⟩
        · rw [if_pos rfl]
          refine lc_elt (all := rs) (Nx := LcAt K ca c D (wipe σ vs) H1 M1 (lcTurn t.b ts.m vs (eltM te)) (xs.drop (i + 1)) e2 rs) B6 v1 ?_ fun H7 M7 B7 sm7 => ?_
          · rw [← hrs] at hz
            simp only [List.length_append] at hz ⊢
            omega
          · have B8 := B7.wiped (vs := vs) hpar
            rw [ew] at B8
            exact ⟨M7, _, _, r3, B8, ((sm.trans s2).trans sm6).trans sm7, t2, by rw [List.append_assoc]; exact hrs⟩
        · rw [if_neg (by decide)]
          have B8 := B6.wiped (vs := vs) hpar
          rw [ew] at B8
          exact ⟨M6, _, _, r3, B8, (sm.trans s2).trans sm6, t2, hrs⟩
    · have e0 : i = xs.length := by omega
      subst e0
      refine .inl ⟨it.stop H M2 sm, ?_⟩
      rw [List.drop_length] at hl
      cases hl
      rw [List.append_nil] at hrs
      subst hrs
      obtain ⟨vs', l1, l2⟩ := B.lst
      have Br : BSt K ca c D M2 σ H (restE e2 e1 vs) ps := ⟨S1.restored B.sim sm hcl, B.no0, B.hid, fun j s h k w => by
        rcases restE_some h with ⟨hi, q'⟩ | ⟨hi, q'⟩
        · obtain ⟨p, rfl⟩ := clean_val hcl hi q'; cases k
        · exact B.noD j s q' k (by rw [wipe_off hi]; exact w), vs', l1, l2⟩
      obtain ⟨M', S', rv⟩ := Br.give
      exact q _ H M' S' rv
theorem je_lc (hc : X.calm = true) (hN : X.N.Nodup) (hset : fSeq iter = false) (hi : JI X ca m tg iter) (ok : BlkOk X.N X.env.scope scope own) (hvs : ∀ i ∈ t.ws, i ∈ own.map (·.2))
    (hg : inBlk X scope fun Y => JG Y t tg) (ht : inBlk X scope fun Y => ts.J Y ca ifs) (he : inBlk X scope fun Y => JE Y ca te elt) : JE X ca (lcM m t.b ts.m (own.map (·.2)) (eltM te)) (.ListComp elt [⟨tg, iter, ifs, 0⟩] scope pos) := fun W tk => by
  exact PE.imp (pe_lc (g := t.g X.K) (tt := Rd X.K ca ts.m relB noW) (te := Rd X.K ca te (relV X.K ca) noW) hc hN (hi W tk) ok (fun s H C cl fp => hg s H C cl fp) (fun s H C cl fp => pts_of (ht s H C cl fp)) (fun s H C cl fp => he s H C cl fp noW noW_takes) (noFold hset)) fun σ H Q h => lc_sem t.ok hvs h
theorem lcIn_inv {b : Bnd} {tt : EM Bool} {vs : List Nat} {inner : EM (List PV)} {rs : List PV} (h : lcIn m b tt vs inner e = .ok rs e') : ∃ xs e1, m e = .ok xs e1 ∧ lcLoop (lcTurn b tt vs inner) xs (wipeE e1 vs) = .ok rs e' := by
  unfold lcIn at h
  cases z : m e with
  | ok xs e1 => simp only [z] at h; exact ⟨xs, e1, rfl, h⟩
  | exc x e1 => simp only [z] at h; cases h
  | bad => simp only [z] at h; cases h
theorem lc2_sem (hvs : ∀ i ∈ t.ws, i ∈ own.map (·.2)) (hvs1 : ∀ i ∈ t1.ws, i ∈ own.map (·.2)) {Q : VK} (h : Rd K ca (lcM m t.b ts.m (own.map (·.2)) (lcIn m1 t1.b ts1.m t1.ws (eltM te))) (relV K ca) W σ H Q) :
    tLc2 (Rd K ca m (relI K ca) W) (t.g K) (Rd K ca ts.m relB noW) (Rd K ca m1 (relI K ca) noW) (t1.g K) (Rd K ca ts1.m relB noW) (Rd K ca te (relV K ca) noW) (own.map (·.2)) t1.ws σ H Q := by
  obtain ⟨c, M, e, S, q⟩ := h
  refine ⟨c, M, e, S, ?_⟩
  unfold RdAt lcM at q
  unfold RdAt
  cases z : m e with
  | bad => simp only [z] at q
  | exc x e1 => simp only [z] at q; exact q
  | ok xs e1 =>
    simp only [z] at q
    intro J H1 M1 S1 it D hD
    cases hcl : cleanE e1 (own.map (·.2)) with
    | false => simp only [hcl, Bool.false_eq_true, if_false] at q
    | true =>
    simp only [hcl, if_true] at q
    cases z2 : lcLoop (lcTurn t.b ts.m (own.map (·.2)) (lcIn m1 t1.b ts1.m t1.ws (eltM te))) xs (wipeE e1 (own.map (·.2))) with
    | exc x e2 => simp only [z2] at q
    | bad => simp only [z2] at q
    | ok rs e2 =>
    simp only [z2] at q
    cases hz : szOk rs.length with
    | false => simp only [hz, Bool.false_eq_true, if_false] at q
    | true =>
    simp only [hz, if_true] at q
    have hz := of_decide_eq_true hz
    generalize hvv : own.map (·.2) = vs at hcl z2 q hvs hvs1 ⊢
    have hpar := clean_par S1 hcl
    have hpar1 : ∀ p ∈ c.par, p.1 ∉ t1.ws := fun p hp hi => hpar p hp (hvs1 _ hi)
    have B0 := BSt.start (S1.wiped hpar) hD
    generalize htn : lcTurn t.b ts.m vs (lcIn m1 t1.b ts1.m t1.ws (eltM te)) = tn at z2
    refine ⟨fun i mm H => mm = xs.length - i ∧ i ≤ xs.length ∧ LcAt K ca c D (wipe σ vs) H1 M1 tn (xs.drop i) e2 rs H,
      ⟨xs.length, by simp, Nat.zero_le _, _, _, [], rs, B0, same_updA hD, z2, rfl⟩, ?_⟩
    rintro i mm H ⟨rfl, hi, M2, e3, ps, r2, B, sm, hl, hrs⟩
    by_cases hlt : i < xs.length
    · refine .inr ⟨it.go H M2 i hlt sm, LcAt K ca c D (wipe σ vs) H1 M1 tn (xs.drop (i + 1)) e2 rs,
        fun H' h' => ⟨xs.length - (i + 1), by omega, rfl, hlt, h'⟩, fun x H' y => ?_⟩
      obtain ⟨p, hp, rp⟩ := it.yld H M2 i x H' hlt sm y
      obtain ⟨S', s2, s3, r'⟩ := rp _ _ e3 B.sim.here
      have B' := B.step S'
      rw [drop_get hp] at hl
      obtain ⟨r1, e4, r3, w1, w2, rfl⟩ := lcLoop_cons hl
      have w1' := w1
      rw [← htn] at w1'
      obtain ⟨e5, k, e6, u1, u2, u3⟩ := lcTurn_inv w1'
      refine t.ok _ M2 _ H' e3 p x _ e5 B'.sim.here r' u1 fun σ2 S5 off => ⟨?_, ?_⟩
      · rw [off.wipe hvs, wipe_wipe fun _ h => h]
      · have B5 := B'.step S5
        have ew : wipe σ2 vs = wipe σ vs := by rw [off.wipe hvs, wipe_wipe fun _ h => h]
        refine B5.rd u2 fun b H6 M6 B6 sm6 rb => ?_
        cases rb
        rcases u3 with ⟨rfl, e7, v1, rfl⟩ | ⟨rfl, rfl, rfl⟩
        · rw [if_pos rfl]
          obtain ⟨xs1, e8, k1, k2⟩ := lcIn_inv v1
          refine B6.rd k1 fun J1 H8 M8 B8 sm8 it1 => ?_
          have it1 : ItOk K ca (QB.hid H8 M8) J1 xs1 := it1
          have B9 := B8.wiped (vs := t1.ws) hpar1
          refine ⟨fun j mm H => mm = xs1.length - j ∧ j ≤ xs1.length ∧ LcAt K ca c D (wipe σ2 t1.ws) H8 M8 (lcTurn t1.b ts1.m t1.ws (eltM te)) (xs1.drop j) e7 (ps ++ r1) H,
            ⟨xs1.length, by simp, Nat.zero_le _, M8, _, ps, r1, B9, Same.refl _, k2, rfl⟩, ?_⟩
          rintro j mm Hj ⟨rfl, hj, Mj, ej, pj, rj, Bj, smj, lj, hrj⟩
          by_cases hlt1 : j < xs1.length
          · refine .inr ⟨it1.go Hj Mj j hlt1 smj, LcAt K ca c D (wipe σ2 t1.ws) H8 M8 (lcTurn t1.b ts1.m t1.ws (eltM te)) (xs1.drop (j + 1)) e7 (ps ++ r1),
              fun H' h' => ⟨xs1.length - (j + 1), by omega, rfl, hlt1, h'⟩, fun x1 Hx y1 => ?_⟩
            obtain ⟨p1, hp1, rp1⟩ := it1.yld Hj Mj j x1 Hx hlt1 smj y1
            obtain ⟨Sx, sx2, sx3, rx'⟩ := rp1 _ _ ej Bj.sim.here
            have Bx := Bj.step Sx
            rw [drop_get hp1] at lj
            obtain ⟨a1, ea, a3, b1, b2, rfl⟩ := lcLoop_cons lj
            obtain ⟨eb, kb, ec, c1, c2, c3⟩ := lcTurn_inv b1
            refine t1.ok _ Mj _ Hx ej p1 x1 _ eb Bx.sim.here rx' c1 fun σ3 S3 off1 => ⟨?_, ?_⟩
            · rw [off1.wipe fun _ h => h, wipe_wipe fun _ h => h]
            · have Bb := Bx.step S3
              have ew1 : wipe σ3 t1.ws = wipe σ2 t1.ws := by rw [off1.wipe fun _ h => h, wipe_wipe fun _ h => h]
              refine Bb.rd c2 fun b Hc Mc Bc smc rb => ?_
              cases rb
              rcases c3 with ⟨rfl, ed, d1, rfl⟩ | ⟨rfl, rfl, rfl⟩
              · rw [if_pos rfl]
                refine lc_elt (all := rs) (Nx := LcAt K ca c D (wipe σ2 t1.ws) H8 M8 (lcTurn t1.b ts1.m t1.ws (eltM te)) (xs1.drop (j + 1)) e7 (ps ++ r1)) Bc d1 ?_ fun Hd Md Bd smd => ?_
                · have l1 : (ps ++ r1).length = (pj ++ (a1 ++ a3)).length := by rw [hrj]
                  have l2 : rs.length = (ps ++ (r1 ++ r3)).length := by rw [hrs]
                  simp only [List.length_append] at l1 l2 ⊢
                  omega
                · have Be := Bd.wiped (vs := t1.ws) hpar1
                  rw [ew1] at Be
                  exact ⟨Md, _, _, a3, Be, ((smj.trans sx2).trans smc).trans smd, b2, by rw [List.append_assoc]; exact hrj⟩
              · rw [if_neg (by decide)]
                have Be := Bc.wiped (vs := t1.ws) hpar1
                rw [ew1] at Be
                exact ⟨Mc, _, _, a3, Be, (smj.trans sx2).trans smc, b2, hrj⟩
          · have e0 : j = xs1.length := by omega
            subst e0
            refine .inl ⟨it1.stop Hj Mj smj, ?_⟩
            rw [List.drop_length] at lj
            cases lj
            rw [List.append_nil] at hrj
            subst hrj
            have Be := Bj.wiped (vs := vs) hpar
            rw [wipe_wipe hvs1, ew] at Be
            exact ⟨Mj, _, _, r3, Be, (((sm.trans s2).trans sm6).trans sm8).trans smj, w2, by rw [List.append_assoc]; exact hrs⟩
        · rw [if_neg (by decide)]
          have B8 := B6.wiped (vs := vs) hpar
          rw [ew] at B8
          exact ⟨M6, _, _, r3, B8, (sm.trans s2).trans sm6, w2, hrs⟩
    · have e0 : i = xs.length := by omega
      subst e0
      refine .inl ⟨it.stop H M2 sm, ?_⟩
      rw [List.drop_length] at hl
      cases hl
      rw [List.append_nil] at hrs
      subst hrs
      obtain ⟨vs', l1, l2⟩ := B.lst
      have Br : BSt K ca c D M2 σ H (restE e2 e1 vs) ps := ⟨S1.restored B.sim sm hcl, B.no0, B.hid, fun j s h k w => by
        rcases restE_some h with ⟨hi, q'⟩ | ⟨hi, q'⟩
        · obtain ⟨p, rfl⟩ := clean_val hcl hi q'; cases k
        · exact B.noD j s q' k (by rw [wipe_off hi]; exact w), vs', l1, l2⟩
      obtain ⟨M', S', rv⟩ := Br.give
      exact q _ H M' S' rv
theorem je_lc2 (hc : X.calm = true) (hN : X.N.Nodup) (hset : fSeq iter = false) (hset1 : fSeq iter1 = false) (hi : JI X ca m tg iter) (ok : BlkOk X.N X.env.scope scope own) (hvs : ∀ i ∈ t.ws, i ∈ own.map (·.2)) (hvs1 : ∀ i ∈ t1.ws, i ∈ own.map (·.2))
    (hg : inBlk X scope fun Y => JG Y t tg) (ht : inBlk X scope fun Y => ts.J Y ca ifs) (hi1 : inBlk X scope fun Y => JI Y ca m1 tg1 iter1) (hg1 : inBlk X scope fun Y => JG Y t1 tg1) (ht1 : inBlk X scope fun Y => ts1.J Y ca ifs1) (he : inBlk X scope fun Y => JE Y ca te elt) :
    JE X ca (lcM m t.b ts.m (own.map (·.2)) (lcIn m1 t1.b ts1.m t1.ws (eltM te))) (.ListComp elt [⟨tg, iter, ifs, 0⟩, ⟨tg1, iter1, ifs1, 0⟩] scope pos) := fun W tk => by
  exact PE.imp (pe_lc2 (g := t.g X.K) (g1 := t1.g X.K) (tt := Rd X.K ca ts.m relB noW) (tt1 := Rd X.K ca ts1.m relB noW) (wi1 := Rd X.K ca m1 (relI X.K ca) noW) (te := Rd X.K ca te (relV X.K ca) noW) hc hN (hi W tk) ok hvs1 (fun s H C cl fp => hg s H C cl fp) (fun s H C cl fp => pts_of (ht s H C cl fp))
    (fun s H C cl fp => hi1 s H C cl fp noW noW_takes) (fun s H C cl fp => hg1 s H C cl fp) (fun s H C cl fp => pts_of (ht1 s H C cl fp)) (fun s H C cl fp => he s H C cl fp noW noW_takes) (noFold hset) (fun env x => noFold hset1 x)) fun σ H Q h => lc2_sem hvs hvs1 h
/-- name = [..] -/
theorem js_setLc {i : Nat} {y : Str} {py spos : Pos} (hc : X.calm = true) (hN : X.N.Nodup) (hy : X.N[i]? = some y) (hyl : X.env.scope.names.lookup y = some .local) (hsw : swapsWith (.ListComp elt [⟨tg, iter, ifs, 0⟩] scope pos) (some (.Name y py)) spos.line X.env = pure true)
    (hset : fSeq iter = false) (hi : JI X ca m tg iter) (ok : BlkOk X.N X.env.scope scope own) (hvs : ∀ i ∈ t.ws, i ∈ own.map (·.2))
    (hg : inBlk X scope fun Y => JG Y t tg) (ht : inBlk X scope fun Y => ts.J Y ca ifs) (he : inBlk X scope fun Y => JE Y ca te elt) : JS X ca (asgM i (lcM m t.b ts.m (own.map (·.2)) (eltM te))) (.Assign [.Name y py] (.ListComp elt [⟨tg, iter, ifs, 0⟩] scope pos) spos) := fun W tk =>
  PS.imp (ps_setLc (g := t.g X.K) (tt := Rd X.K ca ts.m relB noW) (te := Rd X.K ca te (relV X.K ca) noW) hc hN hy hyl hsw (hi W tk) ok (fun s H C cl fp => hg s H C cl fp) (fun s H C cl fp => pts_of (ht s H C cl fp)) (fun s H C cl fp => he s H C cl fp noW noW_takes) (noFold hset)) fun D σ H ⟨c, M, e, S, q⟩ =>
    lc_sem t.ok hvs (SRdAt.thenS q S fun r v H1 M1 e1 S1 _ rr q1 => asg_at S1 (relV.back S rr fun _ h => h) q1)
theorem js_setLc2 {i : Nat} {y : Str} {py spos : Pos} (hc : X.calm = true) (hN : X.N.Nodup) (hy : X.N[i]? = some y) (hyl : X.env.scope.names.lookup y = some .local) (hsw : swapsWith (.ListComp elt [⟨tg, iter, ifs, 0⟩, ⟨tg1, iter1, ifs1, 0⟩] scope pos) (some (.Name y py)) spos.line X.env = pure true)
    (hset : fSeq iter = false) (hset1 : fSeq iter1 = false) (hi : JI X ca m tg iter) (ok : BlkOk X.N X.env.scope scope own) (hvs : ∀ i ∈ t.ws, i ∈ own.map (·.2)) (hvs1 : ∀ i ∈ t1.ws, i ∈ own.map (·.2))
    (hg : inBlk X scope fun Y => JG Y t tg) (ht : inBlk X scope fun Y => ts.J Y ca ifs) (hi1 : inBlk X scope fun Y => JI Y ca m1 tg1 iter1) (hg1 : inBlk X scope fun Y => JG Y t1 tg1) (ht1 : inBlk X scope fun Y => ts1.J Y ca ifs1) (he : inBlk X scope fun Y => JE Y ca te elt) :
    JS X ca (asgM i (lcM m t.b ts.m (own.map (·.2)) (lcIn m1 t1.b ts1.m t1.ws (eltM te)))) (.Assign [.Name y py] (.ListComp elt [⟨tg, iter, ifs, 0⟩, ⟨tg1, iter1, ifs1, 0⟩] scope pos) spos) := fun W tk =>
  PS.imp (ps_setLc2 (g := t.g X.K) (g1 := t1.g X.K) (tt := Rd X.K ca ts.m relB noW) (tt1 := Rd X.K ca ts1.m relB noW) (wi1 := Rd X.K ca m1 (relI X.K ca) noW) (te := Rd X.K ca te (relV X.K ca) noW) hc hN hy hyl hsw (hi W tk) ok hvs1 (fun s H C cl fp => hg s H C cl fp) (fun s H C cl fp => pts_of (ht s H C cl fp))
    (fun s H C cl fp => hi1 s H C cl fp noW noW_takes) (fun s H C cl fp => hg1 s H C cl fp) (fun s H C cl fp => pts_of (ht1 s H C cl fp)) (fun s H C cl fp => he s H C cl fp noW noW_takes) (noFold hset) (fun env x => noFold hset1 x)) fun D σ H ⟨c, M, e, S, q⟩ =>
    lc2_sem hvs hvs1 (SRdAt.thenS q S fun r v H1 M1 e1 S1 _ rr q1 => asg_at S1 (relV.back S rr fun _ h => h) q1)
end
end
end QB

namespace QB
open PySem L2
/-! ### isinstance -/
def tyN : PV → Option String
  | .non => some "NoneType"
  | .bl _ => some "bool"
  | .int _ => some "int"
  | .str _ => some "str"
  | .tup _ => some "tuple"
  | .lst _ => some "list"
  | .rdl _ => some "list"
  | .dct _ _ => some "dict"
  | .ins _ _ _ => none
section
variable {X : Cx} {ca : Str → Addr} {K : PySem.W.Frag} {c : Fx} {M M' M1 : Addr → Prop} {σ σ' σ1 : St} {H H' H1 : Hp} {e e' e1 : En} {W : WX}
theorem SqT.ty {a : Addr} {vs : List V} (h : SqT K H a vs) : TyX K H (.ref a) (.type "tuple") := by
  rcases h with (h | ⟨o, h⟩) | ⟨o, its, n, h1, h2, _⟩
  · exact .base (.tup h)
  · exact .fTuple h
  · exact .kTuple h1 h2
theorem SqL.ty {a : Addr} {vs : List V} (h : SqL K H a vs) : TyX K H (.ref a) (.type "list") := by
  rcases h with (h | ⟨o, h⟩) | ⟨o, its, n, h1, h2, _⟩
  · exact .base (.lst h)
  · exact .base (.frz h)
  · exact .kList h1 h2
theorem RepT.ty {p : PV} {v : V} {t : String} (h : RepT K ca (hid H M) H p v) (e : tyN p = some t) : TyX K H v (.type t) := by
  cases p with
  | non => cases e; cases h; exact .base .non
  | bl b => cases e; cases h; exact .base (.bl b)
  | int i => cases e; cases h; exact .base (.int i)
  | str x => cases e; cases h; exact .base (.str x)
  | tup xs => cases e; obtain ⟨a, vs, rfl, q, _⟩ := h; exact SqT.ty (Same.sqT hid_same q)
  | lst xs => cases e; obtain ⟨a, vs, rfl, q, _⟩ := h; exact .base (.lst q)
  | rdl xs => cases e; obtain ⟨a, vs, rfl, q, _⟩ := h; exact SqL.ty (Same.seq hid_same q)
  | dct ks xs => cases e; obtain ⟨a, kvs, rfl, q, _⟩ := h; exact .base (.dK q)
  | ins c ks xs => cases e
/-- the answer, one type or several -/
def isiB (a : String) : List String → Option Bool
  | [] => some false
  | b :: bs => match kitB a b with
    | some true => some true
    | some false => isiB a bs
    | none => none
def isiP (ts : List String) (p : PV) : Option Bool := (tyN p).bind fun a => isiB a ts
theorem isiB_one {a b : String} {r : Bool} (h : isiB a [b] = some r) : kitB a b = some r := by
  unfold isiB at h
  cases z : kitB a b with
  | none => simp only [z] at h; cases h
  | some q =>
    cases q with
    | true => simp only [z] at h; exact h
    | false => simp only [z] at h; unfold isiB at h; exact h
theorem isiB_any {a : String} : ∀ {bs : List String} {r : Bool}, isiB a bs = some r → PySem.W.kitAny K (.type a) (bs.map Value.type) = some r
  | [], r, h => by cases h; exact kitAny_nil
  | b :: bs, r, h => by
    unfold isiB at h
    cases z : kitB a b with
    | none => simp only [z] at h; cases h
    | some q =>
      cases q with
      | true => simp only [z] at h; cases h; exact kitAny_cons (kit_ty z) (fun w => by cases w) (fun _ => rfl)
      | false => simp only [z] at h; exact kitAny_cons (kit_ty z) (fun _ => isiB_any h) (fun w => by cases w)
def isiM (m : EM Opd) (ts : List String) : EM RV := one m fun p => (EM.opt (isiP ts p)).bind retB
theorem je_isi {a : Expr} {y : Str} {t : String} {m : EM Opd} {p py pos : Pos} (hgi : Gl X "isinstance") (hmi : X.mg "isinstance" = none) (hgy : Gl X y) (hmy : X.mg y = none) (hy : bootBuiltins y = some (.type t)) (hn : y ≠ "__name__") (hd : (y == ("__debug__" : Str)) = false)
    (hs : isStar a = false) (h : JO X ca m a) : JE X ca (isiM m [t]) (.Call (.Name "isinstance" p) [a, .Name y py] [] pos) := fun W tk => by
  have pt : PE X (.Name y py) (tC (.ty t)) := pe_bltn hgy hmy hy rfl hn hd
  refine PE.imp (pe_callB call_isi hgi hmi (by decide +kernel) (pa_cons (h W tk) (pa_cons pt pa_nil rfl) (star_cons hs)) (by decide) (by decide) (star_cons hs) rfl) fun σ H Q ⟨c, M, e, S, q⟩ => RdAt.bind q S fun o v H1 M1 e1 S1 _ _ r q1 => ?_
  obtain ⟨x, _, rx, q2⟩ := q1.lookM S1 r
  obtain ⟨b, hb, q3⟩ := RdAt.optB q2
  unfold isiP at hb
  cases z : tyN x with
  | none => rw [z] at hb; cases hb
  | some t0 =>
    rw [z] at hb
    exact ⟨v, .ty t, .type t0, .type t, b, rfl, .ty t, rx.ty z, kit_ty (isiB_one hb), q3.ret S1 ⟨rfl, trivial⟩⟩
/-- names of built-in types -/
def TyNames (X : Cx) : List Expr → List String → Prop
  | [], ts => ts = []
  | e :: es, ts => ∃ y p t ts', e = .Name y p ∧ ts = t :: ts' ∧ Gl X y ∧ X.mg y = none ∧ bootBuiltins y = some (.type t) ∧ y ≠ "__name__" ∧ (y == ("__debug__" : Str)) = false ∧ TyNames X es ts'
def tTys : List String → TA
  | [] => tNil
  | t :: ts => tCons (tC (.ty t)) (tTys ts)
theorem pa_tys : ∀ {es : List Expr} {ts : List String}, TyNames X es ts → PA X es (tTys ts)
  | [], ts, h => by cases h; exact pa_nil
  | e :: es, ts, h => by
    obtain ⟨y, p, t, ts', rfl, rfl, h1, h2, h3, h4, h5, h6⟩ := h
    exact pa_cons (pe_bltn h1 h2 h3 rfl h4 h5) (pa_tys h6) rfl
theorem tTys_run : ∀ {ts : List String} {σ : St} {H : Hp} {Q : List V → Hp → Prop}, Q (ts.map V.ty) H → tTys ts σ H Q
  | [], σ, H, Q, h => h
  | t :: ts, σ, H, Q, h => tTys_run (ts := ts) (Q := fun vs H1 => Q (.ty t :: vs) H1) h
theorem clsAll : ∀ ts : List String, Paired ClsV (ts.map V.ty) (ts.map Value.type)
  | [] => .nil
  | t :: ts => .cons (.ty t) (clsAll ts)
theorem je_isiT {a : Expr} {es : List Expr} {ts : List String} {m : EM Opd} {k : Nat} {p pt pos : Pos} (hgi : Gl X "isinstance") (hmi : X.mg "isinstance" = none) (ht : TyNames X es ts) (hz : ts.length ≤ sizeLine)
    (hs : isStar a = false) (h : JO X ca m a) : JE X ca (isiM m ts) (.Call (.Name "isinstance" p) [a, .Tuple es k pt] [] pos) := fun W tk => by
  refine PE.imp (pe_callB call_isiT hgi hmi (by decide +kernel) (pa_cons (h W tk) (pa_cons (pe_tup (pa_tys ht)) pa_nil rfl) (star_cons hs)) (by decide) (by decide) (star_cons hs) rfl) fun σ H Q ⟨c, M, e, S, q⟩ => RdAt.bind q S fun o v H1 M1 e1 S1 _ _ r q1 => ?_
  refine tTys_run ⟨by rw [List.length_map]; exact hz, fun tp htp => ?_⟩
  have S2 := S1.alloc (o := .tup (ts.map V.ty)) htp
  obtain ⟨x, _, rx, q2⟩ := q1.lookM S2 (c' := Fx.at M σ H e c.par) (e' := e1) (relO.mono r (same_upd htp))
  obtain ⟨b, hb, q3⟩ := RdAt.optB q2
  unfold isiP at hb
  cases z : tyN x with
  | none => rw [z] at hb; cases hb
  | some t0 =>
    rw [z] at hb
    exact ⟨v, tp, ts.map V.ty, .type t0, ts.map Value.type, b, rfl, upd_same, clsAll ts, rx.ty z, isiB_any hb, q3.ret S2 ⟨rfl, trivial⟩⟩
/-! ### repr -/
theorem repr_call {prog : Program} {w : World} {A : Around} {E : Value → Shared → Prop} {s : Shared} {v : Value} {d : PyData} {as : List Addr} {Q : Value → Shared → Prop} (r : Reads s.heap v d as) (hs : d.showable = true) (hn : d.hasDict = false) (hz : d.shown.length ≤ sizeLine)
    (hg : A.guards = some []) (hu : A.units + 1 + d.depth < cLine) (hQ : ∀ h' u tk, (∀ b o, s.heap.get? b = some o → h'.get? b = some o) → Q (.str d.shown u) { s with heap := h', toks := tk }) : wpAny (model prog w) A (call (.builtin "repr") [v]) Q E s := by
  cases r with
  | none => exact PySem.P.repr_of_none (hQ s.heap _ _ fun _ _ e => e)
  | bool b => exact PySem.P.repr_of_bool (hQ s.heap _ _ fun _ _ e => e)
  | int i t => exact PySem.P.repr_of_int (by simpa [PyData.showable] using hs) (hQ s.heap _ _ fun _ _ e => e)
  | str x t => exact PySem.P.repr_of_str (hQ s.heap _ _ fun _ _ e => e) (by simpa only [PyData.shown] using hz)
  | @list a o vs n xs as h1 h2 h3 h4 =>
    have hz' : (listText (PyData.shownAll xs)).length ≤ sizeLine := by simpa only [PyData.shown] using hz
    have hn' : PyData.hasDictAll xs = false := by simpa [PyData.hasDict] using hn
    obtain ⟨bs, hb, hk⟩ := ReprAllK.of_readsAll (prog := prog) (w := w) h4 (by simpa [PyData.showable] using hs) (fun z => by rw [hn'] at z; cases z) (fun t ht => Nat.le_trans (listText_mem_le ht) hz')
    have hna : a ∉ bs := not_mem_of_deeper (Reads.list h1 h2 h3 h4) (by simp only [PyData.depth]; omega) hb
    simp only [PyData.depth] at hu
    simp only [PyData.shown] at hQ
    refine call_repr_slot (by omega) ⟨o, h1, h2⟩ F.slot_list_repr.toG ?_
    obtain ⟨l⟩ := vs
    cases l with
    | nil =>
      have h4' : ReadsAll s.heap [] xs _ := h4
      cases h4'
      simp only [PyData.shownAll, listText_nil] at hQ
      exact call_list_repr_empty ⟨o, h1, h2⟩ h1 h3 ⟨_, _, rfl, hQ s.heap _ _ fun _ _ e => e⟩
    | cons x l =>
      exact call_list_reprK h1 h2 h3 hna (by simpa using hk.length_eq) (fun i y e => hk.item i y (by simpa using e)) hg (fun b _ => Clear.nil b) (by show A.units + 1 + _ < _; omega) (fun _ _ e => e) (fun h' u tk hk' => ⟨_, _, rfl, hQ h' u tk hk'⟩) hz'
  | @tuple a o vs n xs as h1 h2 h3 h4 =>
    have hz' : (tupleText (PyData.shownAll xs)).length ≤ sizeLine := by simpa only [PyData.shown] using hz
    have hn' : PyData.hasDictAll xs = false := by simpa [PyData.hasDict] using hn
    obtain ⟨bs, hb, hk⟩ := ReprAllK.of_readsAll (prog := prog) (w := w) h4 (by simpa [PyData.showable] using hs) (fun z => by rw [hn'] at z; cases z) (fun t ht => Nat.le_trans (tupleText_mem_le ht) hz')
    have hna : a ∉ bs := not_mem_of_deeper (Reads.tuple h1 h2 h3 h4) (by simp only [PyData.depth]; omega) hb
    simp only [PyData.depth] at hu
    simp only [PyData.shown] at hQ
    exact call_repr_slot (by omega) ⟨o, h1, h2⟩ F.slot_tuple_repr (call_tuple_reprK h1 h2 h3 hna hk hg (fun b _ => Clear.nil b) (by show A.units + 1 + _ < _; omega) (fun _ _ e => e) (fun h' u tk hk' => ⟨_, _, rfl, hQ h' u tk hk'⟩) hz')
  | dict h1 h2 h3 h4 h5 => simp [PyData.hasDict] at hn
def repOk (d : PyData) : Bool := d.showable && !d.hasDict && decide (d.depth ≤ 64) && szOk d.shown.length
def bRepr : List PV → EM RV
  | [p] => match p.data with
    | some d => if repOk d then EM.ret (.val (.str d.shown)) else EM.bad
    | none => EM.bad
  | _ => EM.bad
theorem cs_repr (hg : X.A.guards = some []) (hu : X.A.units + 66 < cLine) (W : WX) : CallR X (.builtin "repr") (rSemN X.K ca W bRepr) := by
  intro pins s σ0 H vs us Q I r ⟨c, M, σ, e, ps, S, rp, h⟩
  match ps, h with
  | [], h => exact False.elim h
  | p :: _ :: _, h => exact False.elim h
  | [p], h =>
    obtain ⟨v, rfl, rv⟩ := pair1 rp
    obtain ⟨u, rfl, ru⟩ := vals1 r
    unfold bRepr at h
    dsimp only at h
    cases z : p.data with
    | none => simp only [z] at h; exact False.elim h
    | some d =>
      simp only [z] at h
      obtain ⟨hz, h⟩ := RdAt.ite h
      unfold repOk at hz
      simp only [Bool.and_eq_true, Bool.not_eq_true', decide_eq_true_eq] at hz
      obtain ⟨⟨⟨z1, z2⟩, z3⟩, z4⟩ := hz
      obtain ⟨as, rd⟩ := Dp.reads I d v u (Rep.dp (rv.rep hid_same) z) ru
      exact repr_call rd z1 z2 (of_decide_eq_true z4) hg (by omega) fun h' t tk hk => ⟨.str d.shown, H, I.kept (t' := tk) hk, ⟨t, rfl⟩, h.ret S ⟨rfl, trivial⟩⟩
/-! ### str(x), int(text), bool(x) -/
def numOk (i : Int) : Bool := decide (i.natAbs.log2 < 1920)
def bStr : List PV → EM RV
  | [.int i] => if numOk i then EM.ret (.val (.str (toString i))) else EM.bad
  | [.str x] => EM.ret (.val (.str x))
  | _ => EM.bad
theorem cs_str (W : WX) : CallR X (.type "str") (rSemN X.K ca W bStr) := by
  intro pins s σ0 H vs us Q I r ⟨c, M, σ, e, ps, S, rp, h⟩
  match ps, h with
  | [], h => exact False.elim h
  | p :: _ :: _, h => exact False.elim (by cases p <;> exact h)
  | [p], h =>
    obtain ⟨v, rfl, rv⟩ := pair1 rp
    cases p <;> first | exact False.elim h | skip
    case int i =>
      cases rv
      obtain ⟨hz, h⟩ := RdAt.ite h
      exact call_str_int pins s σ0 H _ us Q I r ⟨i, rfl, of_decide_eq_true hz, h.ret S ⟨rfl, trivial⟩⟩
    case str x =>
      cases rv
      exact SkE.call_str_str pins s σ0 H _ us Q I r ⟨x, rfl, h.ret S ⟨rfl, trivial⟩⟩
def bInt' : List PV → EM RV
  | [.str x] => if decide (x.length ≤ 640) then (EM.opt (PySem.intText? x)).bind fun n => EM.ret (.val (.int n)) else EM.bad
  | ps => bInt ps
theorem cs_int' (W : WX) : CallR X (.type "int") (rSemN X.K ca W bInt') := by
  intro pins s σ0 H vs us Q I r ⟨c, M, σ, e, ps, S, rp, h⟩
  match ps, h with
  | [.str x], h =>
    obtain ⟨v, rfl, rv⟩ := pair1 rp
    cases rv
    obtain ⟨hz, h⟩ := RdAt.ite (show RdAt X.K ca c (if decide (x.length ≤ 640) = true then (EM.opt (PySem.intText? x)).bind fun n => EM.ret (.val (.int n)) else EM.bad) (relV X.K ca) W e σ Q from h)
    obtain ⟨n, hn, h⟩ := RdAt.optB h
    exact call_int_str pins s σ0 H _ us Q I r ⟨x, n, rfl, hn, of_decide_eq_true hz, h.ret S ⟨rfl, trivial⟩⟩
  | [], h => exact False.elim h
  | p :: _ :: _, h => exact False.elim (by cases p <;> exact h)
  | [.non], h => exact False.elim h
  | [.bl b], h => exact cs_int W pins s σ0 H vs us Q I r ⟨c, M, σ, e, [.bl b], S, rp, h⟩
  | [.int b], h => exact cs_int W pins s σ0 H vs us Q I r ⟨c, M, σ, e, [.int b], S, rp, h⟩
  | [.tup _], h => exact False.elim h
  | [.lst _], h => exact False.elim h
  | [.rdl _], h => exact False.elim h
  | [.ins _ _ _], h => exact False.elim h
  | [.dct _ _], h => exact False.elim h
/-! ### methods of texts -/
def strsP (l : List Str) : List PV := l.map PV.str
theorem strsReps {G : Hp} (l : List Str) : Reps K ca G (strsP l) (l.map V.str) := by
  induction l with
  | nil => rfl
  | cons n ns ih => exact ⟨_, _, rfl, rfl, ih⟩
/-- the receiver is a text; then the argument -/
def strM1 (mo : EM Opd) (m : EM Opd) (f : Str → PV → EM RV) : EM RV := mo.bind fun o => (lookM o).bind fun x => match x with
  | .str a => m.bind fun b => (lookM b).bind fun y => f a y
  | _ => EM.bad
def splitP (a : Str) : PV → EM RV
  | .str b => if !(b.length == 0) && decide (a.length + 2 ≤ sizeLine) then EM.ret (.own (.lst (strsP (Txt.split a b)))) else EM.bad
  | _ => EM.bad
theorem je_m1 {o a : Expr} {name : Str} {id : String} {mo m : EM Opd} {f : Str → PV → EM RV} {r : V → List V → Hp → VK → Prop} {apos pos : Pos} (slot : PySem.Slot "str" name id) (ty : typeOf (.builtin id) = pure (.type "method_descriptor")) (rule : MtR X id r)
    (hr : ∀ {W : WX} {c : Fx} {M : Addr → Prop} {σ : St} {H : Hp} {e : En} {a : Str} {y : PV} {v : V} {Q : VK}, Sim X.K ca c M σ H e → RepT X.K ca (hid H M) H y v → RdAt X.K ca c (f a y) (relV X.K ca) W e σ Q → r (.str a) [v] H Q)
    (hb : attributeBase o name X.env (eval o X.env) = eval o X.env) (hl : (apos.endLine == pos.line) = true) (hs : isStar a = false) (ho : JO X ca mo o) (h : JO X ca m a) : JE X ca (strM1 mo m f) (.Call (.Attribute o name apos) [a] [] pos) := fun W tk =>
  PE.imp (pe_m1 slot ty rule (ho W tk) (h W tk) (star_cons hs) hb hl) fun σ H Q ⟨c, M, e, S, q⟩ => RdAt.bind q S fun o v H1 M1 e1 S1 _ _ r1 q1 => by
    obtain ⟨x, _, rx, q2⟩ := q1.lookM S1 r1
    cases x <;> first | exact False.elim q2 | skip
    case str z =>
      cases rx
      refine ⟨⟨_, rfl⟩, RdAt.bind q2 S1 fun b w H2 M2 e2 S2 _ _ r2 q3 => ?_⟩
      obtain ⟨y, _, ry, q4⟩ := q3.lookM S2 r2
      exact hr S2 ry q4
theorem je_split {o a : Expr} {mo m : EM Opd} {apos pos : Pos} (hb : attributeBase o "split" X.env (eval o X.env) = eval o X.env) (hl : (apos.endLine == pos.line) = true) (hs : isStar a = false) (ho : JO X ca mo o) (h : JO X ca m a) :
    JE X ca (strM1 mo m splitP) (.Call (.Attribute o "split" apos) [a] [] pos) := by
  refine je_m1 F.slot_str_split F.type_str_split mt_split (fun {W c M σ H e a y v Q} S ry q => ?_) hb hl hs ho h
  cases y <;> first | exact False.elim q | skip
  case str b =>
    cases ry
    obtain ⟨hz, q⟩ := RdAt.ite q
    simp only [Bool.and_eq_true, Bool.not_eq_true', decide_eq_true_eq] at hz
    exact ⟨a, b, rfl, rfl, hz.1, hz.2, fun p hp => q.ret (S.alloc hp) (relV.newL S hp (strsReps _))⟩
def strsOf : List PV → Option (List Str)
  | [] => some []
  | .str i :: r => (strsOf r).map (i :: ·)
  | _ :: _ => none
theorem strsOf_reps {G : Hp} : ∀ {ps : List PV} {vs : List V} {ns : List Str}, Reps K ca G ps vs → strsOf ps = some ns → vs = ns.map V.str
  | [], _, _, h, e => by cases h; cases e; rfl
  | p :: r, _, ns, h, e => by
    obtain ⟨v, r', rfl, h1, h2⟩ := h
    cases p <;> first | (cases e; done) | skip
    case str i =>
      unfold strsOf at e
      cases z : strsOf r with
      | none => rw [z] at e; cases e
      | some ms =>
        rw [z] at e
        cases e
        cases h1
        rw [strsOf_reps h2 z]
        rfl
def joinP (a : Str) : PV → EM RV
  | .lst xs => (EM.opt (strsOf xs)).bind fun ys => if decide ((ys.map (·.length)).sum + ys.length * a.length ≤ 16777216) then EM.ret (.val (.str (Txt.join a ys))) else EM.bad
  | .tup xs => (EM.opt (strsOf xs)).bind fun ys => if decide ((ys.map (·.length)).sum + ys.length * a.length ≤ 16777216) then EM.ret (.val (.str (Txt.join a ys))) else EM.bad
  | _ => EM.bad
theorem je_join {o a : Expr} {mo m : EM Opd} {apos pos : Pos} (hb : attributeBase o "join" X.env (eval o X.env) = eval o X.env) (hl : (apos.endLine == pos.line) = true) (hs : isStar a = false) (ho : JO X ca mo o) (h : JO X ca m a) :
    JE X ca (strM1 mo m joinP) (.Call (.Attribute o "join" apos) [a] [] pos) := by
  refine je_m1 F.slot_str_join F.type_str_join mt_join (fun {W c M σ H e a y v Q} S ry q => ?_) hb hl hs ho h
  cases y <;> first | exact False.elim q | skip
  case lst xs =>
    obtain ⟨b, ws, rfl, hb, rb⟩ := ry
    obtain ⟨ys, hy, q⟩ := RdAt.optB q
    obtain ⟨hz, q⟩ := RdAt.ite q
    have := strsOf_reps rb hy
    subst this
    exact ⟨a, b, ys, rfl, rfl, .inl (SqL.of hb), of_decide_eq_true hz, q.ret S ⟨rfl, trivial⟩⟩
  case tup xs =>
    obtain ⟨b, ws, rfl, hb, rb⟩ := ry
    obtain ⟨ys, hy, q⟩ := RdAt.optB q
    obtain ⟨hz, q⟩ := RdAt.ite q
    have := strsOf_reps rb hy
    subst this
    exact ⟨a, b, ys, rfl, rfl, .inr (Same.sqT hid_same hb), of_decide_eq_true hz, q.ret S ⟨rfl, trivial⟩⟩
/-! ### f'..' -/
def fmtP : PV → EM RV
  | .str y => if szOk y.length then EM.ret (.val (.str y)) else EM.bad
  | .int i => if numOk i then EM.ret (.val (.str (toString i))) else EM.bad
  | _ => EM.bad
theorem je_fmt {a : Expr} {m : EM Opd} {pos : Pos} (h : JO X ca m a) : JE X ca (one m fmtP) (.FormattedValue a (-1) none pos) := fun W tk =>
  PE.imp (pe_fmt (h W tk)) fun σ H Q ⟨c, M, e, S, q⟩ => RdAt.bind q S fun o v H1 M1 e1 S1 _ _ r q1 => by
    obtain ⟨x, _, rx, q2⟩ := q1.lookM S1 r
    cases x <;> first | exact False.elim q2 | skip
    case int i =>
      cases rx
      obtain ⟨hz, q⟩ := RdAt.ite q2
      exact .inr ⟨_, rfl, of_decide_eq_true hz, q.ret S1 ⟨rfl, trivial⟩⟩
    case str y =>
      cases rx
      obtain ⟨hz, q⟩ := RdAt.ite q2
      exact .inl ⟨_, rfl, of_decide_eq_true hz, q.ret S1 ⟨rfl, trivial⟩⟩
/-- the parts one behind the other -/
def fjM : List (EM RV) → Str → EM RV
  | [], acc => EM.ret (.val (.str acc))
  | m :: ms, acc => m.bind fun r => match r.pv with
    | .str y => if szOk (acc ++ y).length then fjM ms (acc ++ y) else EM.bad
    | _ => EM.bad
inductive JJ (X : Cx) (ca : Str → Addr) : List (EM RV) → List Expr → Prop where
  | nil : JJ X ca [] []
  | cons {m : EM RV} {ms : List (EM RV)} {e : Expr} {es : List Expr} (h : JE X ca m e) (r : JJ X ca ms es) : JJ X ca (m :: ms) (e :: es)
theorem pj_of (W : WX) (tk : Takes X W) : ∀ {ms : List (EM RV)} {es : List Expr}, JJ X ca ms es → PJ X es (ms.map fun m => Rd X.K ca m (relV X.K ca) W)
  | _, _, .nil => .nil
  | _, _, .cons h r => .cons (h W tk) (pj_of W tk r)
theorem fj_run : ∀ {ms : List (EM RV)} {acc : Str} {c : Fx} {M : Addr → Prop} {σ : St} {H : Hp} {e : En} {Q : VK}, Sim K ca c M σ H e → RdAt K ca c (fjM ms acc) (relV K ca) W e σ Q → tJs (ms.map fun m => Rd K ca m (relV K ca) W) acc σ H fun out H1 => Q (.str out) H1
  | [], acc, c, M, σ, H, e, Q, S, q => q.ret S ⟨rfl, trivial⟩
  | m :: ms, acc, c, M, σ, H, e, Q, S, q => by
    refine RdAt.bind q S fun r v H1 M1 e1 S1 _ _ rr q1 => ?_
    obtain ⟨rv, _⟩ := rr
    cases z : r.pv <;> rw [z] at rv <;> simp only [z] at q1 <;> first | exact False.elim q1 | skip
    case str y =>
      cases rv
      obtain ⟨hz, q2⟩ := RdAt.ite q1
      exact ⟨y, rfl, of_decide_eq_true hz, fj_run S1 q2⟩
theorem je_fj {e1 e2 : Expr} {es : List Expr} {ms : List (EM RV)} {pos : Pos} (h : JJ X ca ms (e1 :: e2 :: es)) : JE X ca (fjM ms Str.empty) (.JoinedStr (e1 :: e2 :: es) pos) := fun W tk =>
  PE.imp (pe_joined (pj_of W tk h)) fun σ H Q ⟨c, M, e, S, q⟩ => fj_run S q
theorem je_fj1 {e1 : Expr} {m : EM RV} {pos : Pos} (h : JE X ca m e1) : JE X ca m (.JoinedStr [e1] pos) := fun W tk => pe_joined1 (h W tk)
def isSup : Expr → Bool
  | .Call f a k _ => match f, a, k with
    | .Name _ _, [], [] => true
    | _, _, _ => false
  | _ => false
theorem notSup {o : Expr} {attr : Str} {env : Env} (h : isSup o = false) : attributeBase o attr env (eval o env) = eval o env := by
  cases o with
  | Call f a k p =>
    cases f with
    | Name x q =>
      cases a with
      | nil =>
        cases k with
        | nil => cases h
        | cons _ _ => rfl
      | cons _ _ => rfl
    | _ => rfl
  | _ => rfl
/-! ### what is not told -/
theorem je_bad {e : Expr} : JE X ca EM.bad e := fun W tk => ⟨fun pins s σ H Q I h => by obtain ⟨c, M, e, S, q⟩ := h; exact q.elim⟩
theorem jt_bad {e : Expr} : JT X ca EM.bad e := fun W tk => ⟨fun pins s σ H Q I h => by obtain ⟨c, M, e, S, q⟩ := h; exact q.elim⟩
def badS : SM := fun _ => .bad
theorem js_bad {s : Stmt} : JS X ca badS s := fun W tk => ⟨fun pins s σ H Q I h => by obtain ⟨c, M, e, S, q⟩ := h; exact q.elim⟩
end
end QB

namespace QB
open PySem L2
/-! ### the meaning of a text, by the text -/
structure Cfg where
  N : List Str
  fns : List FnE
  consts : List (Str × PV)
  frees : List Str
  rp : Bool
structure Good (cfg : Cfg) (ca : Str → Addr) (lvl : Nat) (X : Cx) : Prop where
  hN : X.N = cfg.N
  nd : cfg.N.Nodup
  calm : X.calm = true
  room : Room lvl X.A
  fns : ∀ E ∈ cfg.fns, E.Ok cfg.rp X ca lvl
  gd : cfg.rp = true → X.A.guards = some []
  consts : ∀ p ∈ cfg.consts, ∃ u v, X.mg p.1 = some u ∧ RelV v u ∧ KRep X.K ca p.2 v
  frees : ∀ x ∈ cfg.frees, X.mg x = none
structure Den where
  E : Scope → Expr → Option (EM RV)
  T : Scope → Expr → Option (EM Bool)
def okName (x : Str) : Bool := !(x == ("__debug__" : Str)) && !(x == ("__classdict__" : Str)) && !(x == ("__name__" : Str))
def isVis (sc : Scope) (x : Str) : Bool := match sc.names.lookup x with
  | some .local => true
  | some .cell => true
  | some .free => true
  | _ => false
def isLoc (sc : Scope) (x : Str) : Bool := match sc.names.lookup x with
  | some .local => true
  | some .cell => true
  | _ => false
def isGlob (sc : Scope) (x : Str) : Bool := match sc.names.lookup x with
  | some .globalImplicit => true
  | _ => false
/-- the slot of a name -/
def slotOf (cfg : Cfg) (sc : Scope) (x : Str) : Option Nat := if okName x && isVis sc x then cfg.N.findIdx? (· == x) else none
def dO (cfg : Cfg) (d : Den) (sc : Scope) (b : Bool) (e : Expr) : Option (EM Opd) := match b, e with
  | true, .Name x p => match slotOf cfg sc x with
    | some i => some (slotM i)
    | none => (d.E sc (.Name x p)).map opdM
  | _, e => (d.E sc e).map opdM
def dA (cfg : Cfg) (d : Den) (sc : Scope) : List Bool → List Expr → Option (EM (List Opd))
  | _, [] => some opdsNil
  | b, e :: es => if isStar e then none else match dO cfg d sc (b.headD false) e, dA cfg d sc b.tail es with
    | some m, some ms => some (opdsCons m ms)
    | _, _ => none
def dV (d : Den) (sc : Scope) : List Expr → Option (EM (List PV))
  | [] => some valsNil
  | e :: es => if isStar e then none else match d.E sc e, dV d sc es with
    | some m, some ms => some (valsCons m ms)
    | _, _ => none
def dK (d : Den) (sc : Scope) : List Keyword → Option (EM (List Opd))
  | [] => some opdsNil
  | ⟨nm, e, _⟩ :: ks => match d.E sc e, dK d sc ks with
    | some m, some ms => some (opdsCons (opdM m) ms)
    | _, _ => none
def dBE (d : Den) (sc : Scope) (op : BoolOp) : List Expr → Option (EM RV)
  | [] => none
  | [e] => d.E sc e
  | e :: es => match d.E sc e, dBE d sc op es with
    | some m, some n => match op with
      | .And => some (andV m n)
      | .Or => some (orV m n)
    | _, _ => none
def dBT (d : Den) (sc : Scope) (op : BoolOp) : List Expr → Option (EM Bool)
  | [] => none
  | [e] => d.T sc e
  | e :: es => match d.T sc e, dBT d sc op es with
    | some m, some n => match op with
      | .And => some (andT m n)
      | .Or => some (orT m n)
    | _, _ => none
/-- built-ins -/
def bltB (rp : Bool) (x : Str) : Option (List PV → EM RV) :=
  if x = "repr" then (if rp then some bRepr else none) else if x = "len" then some bLen else if x = "abs" then some bAbs else if x = "max" then some bMax else if x = "min" then some bMin else if x = "any" then some bAny else if x = "all" then some bAll else if x = "sorted" then some bSorted else none
def bltT (x : Str) : Option (List PV → EM RV) :=
  if x = "int" then some bInt' else if x = "str" then some bStr else if x = "list" then some bList else if x = "tuple" then some bTuple else none
/-- a call of the global name x -/
def dCall (cfg : Cfg) (d : Den) (sc : Scope) (x : Str) (args : List Expr) (kws : List Keyword) : Option (EM RV) :=
  if okName x && isGlob sc x then match cfg.fns.find? (fun E => E.name == x) with
    | some E => match E.shapes.find? (fun s => s.n == args.length && decide (kws.filterMap (·.arg) = s.ks)) with
      | some s => if noStars args && kws.all (fun k => k.arg.isSome) then match dA cfg d sc E.bor args, dK d sc kws with
        | some ms, some mk => some (callM E.sem E.ps.length s ms mk)
        | _, _ => none else none
      | none => none
    | none => if cfg.frees.contains x && kws.isEmpty && noStars args && !args.isEmpty then match bltB cfg.rp x with
      | some f => (dA cfg d sc (List.replicate 9 true) args).map fun ms => bltM ms f
      | none => match bltT x with
        | some f => (dA cfg d sc (List.replicate 9 true) args).map fun ms => bltM ms f
        | none => none else none
  else none
def dMeth (cfg : Cfg) (d : Den) (sc : Scope) (x m : Str) (args : List Expr) : Option (EM RV) := match slotOf cfg sc x, args with
  | some i, [a] => if isStar a then none else if m = "append" then (d.E sc a).map (appM i) else if m = "extend" then (dO cfg d sc true a).map (extM i) else none
  | _, _ => none
/-- names of types -/
def tyName (x : Str) : Option String := if x = "int" then some "int" else if x = "bool" then some "bool" else if x = "str" then some "str" else if x = "tuple" then some "tuple" else if x = "list" then some "list" else if x = "dict" then some "dict" else none
def dTy (cfg : Cfg) (sc : Scope) : Expr → Option String
  | .Name y _ => if okName y && isGlob sc y && cfg.frees.contains y then tyName y else none
  | _ => none
def dTys (cfg : Cfg) (sc : Scope) : List Expr → Option (List String)
  | [] => some []
  | e :: es => match dTy cfg sc e, dTys cfg sc es with
    | some t, some ts => some (t :: ts)
    | _, _ => none
def dIsi (cfg : Cfg) (d : Den) (sc : Scope) (args : List Expr) (kws : List Keyword) : Option (EM RV) := if isGlob sc "isinstance" && cfg.frees.contains "isinstance" && kws.isEmpty then match args with
  | [a, t] => if isStar a then none else match dO cfg d sc true a with
    | some m => match t with
      | .Tuple es _ _ => match dTys cfg sc es with
        | some ts => if szOk ts.length then some (isiM m ts) else none
        | none => none
      | t => match dTy cfg sc t with
        | some ty => some (isiM m [ty])
        | none => none
    | none => none
  | _ => none else none
/-- targets -/
def locOf (cfg : Cfg) (fo : Str → Bool) (sc : Scope) (x : Str) : Option Nat := if isLoc sc x && (fo x || decide (sc.names.lookup x = some .local)) then cfg.N.findIdx? (· == x) else none
def locsOf (cfg : Cfg) (fo : Str → Bool) (sc : Scope) : List Expr → Option (List Nat)
  | [] => some []
  | .Name x _ :: es => match locOf cfg fo sc x, locsOf cfg fo sc es with
    | some i, some is => some (i :: is)
    | _, _ => none
  | _ => none
def dG (cfg : Cfg) (fo : Str → Bool) (sc : Scope) : Expr → Option Tgt
  | .Name x _ => (locOf cfg fo sc x).map .nm
  | .Tuple es _ _ => (locsOf cfg fo sc es).map .tup
  | _ => none
/-- what is walked -/
def dI (cfg : Cfg) (d : Den) (sc : Scope) (iter : Expr) : Option (EM (List PV)) := if fSeq iter then none else match iter with
  | .Call (.Name f _) [a] [] _ => if f = "range" then (if isGlob sc f && cfg.frees.contains f && !isStar a then (dA cfg d sc [true] [a]).map (itA rng1) else none) else (d.E sc iter).map itV
  | .Call (.Name f _) [a, a'] [] _ => if f = "range" then (if isGlob sc f && cfg.frees.contains f && !isStar a && !isStar a' then (dA cfg d sc [true, true] [a, a']).map (itA rng2) else none) else (d.E sc iter).map itV
  | _ => (d.E sc iter).map itV
/-- [.. for .. in ..] -/
def ownOf (cfg : Cfg) (scope : Scope) : List (Str × Nat) := scope.names.filterMap fun y => match y.2 with
  | .local => (cfg.N.findIdx? (· == y.1)).map fun i => (y.1, i)
  | .cell => (cfg.N.findIdx? (· == y.1)).map fun i => (y.1, i)
  | _ => none
def dTst (d : Den) (sc : Scope) : List Expr → Option Tst
  | [] => some .no
  | [e] => (d.T sc e).map .one
  | _ => none
def inOwn (own : List (Str × Nat)) (t : Tgt) : Bool := t.ws.all fun i => (own.map (·.2)).contains i
def blkFo (scope : Scope) (x : Str) : Bool := scope.names.lookup x == some .cell
def dLc1 (cfg : Cfg) (d : Den) (sc : Scope) (own : List (Str × Nat)) (elt tg iter : Expr) (ifs : List Expr) (scope : Scope) : Option (EM RV) := match dI cfg d sc iter, dG cfg (blkFo scope) (relS scope sc) tg, dTst d (relS scope sc) ifs, d.E (relS scope sc) elt with
  | some m, some t, some ts, some te => if inOwn own t then some (lcM m t.b ts.m (own.map (·.2)) (eltM te)) else none
  | _, _, _, _ => none
def dLc2 (cfg : Cfg) (d : Den) (sc : Scope) (own : List (Str × Nat)) (elt tg iter : Expr) (ifs : List Expr) (tg1 iter1 : Expr) (ifs1 : List Expr) (scope : Scope) : Option (EM RV) := match dI cfg d sc iter, dG cfg (blkFo scope) (relS scope sc) tg, dTst d (relS scope sc) ifs, dI cfg d (relS scope sc) iter1, dG cfg (blkFo scope) (relS scope sc) tg1, dTst d (relS scope sc) ifs1, d.E (relS scope sc) elt with
  | some m, some t, some ts, some m1, some t1, some ts1, some te => if inOwn own t && inOwn own t1 then some (lcM m t.b ts.m (own.map (·.2)) (lcIn m1 t1.b ts1.m t1.ws (eltM te))) else none
  | _, _, _, _, _, _, _ => none
def dLc (cfg : Cfg) (d : Den) (sc : Scope) (elt : Expr) (gs : List Comprehension) (scope : Scope) : Option (EM RV) := if blkC cfg.N sc scope (ownOf cfg scope) then match gs with
  | [⟨tg, iter, ifs, a⟩] => if a = 0 then dLc1 cfg d sc (ownOf cfg scope) elt tg iter ifs scope else none
  | [⟨tg, iter, ifs, a⟩, ⟨tg1, iter1, ifs1, a1⟩] => if a = 0 ∧ a1 = 0 then dLc2 cfg d sc (ownOf cfg scope) elt tg iter ifs tg1 iter1 ifs1 scope else none
  | _ => none else none
/-- f'..' -/
def dFs (d : Den) (sc : Scope) : List Expr → Option (List (EM RV))
  | [] => some []
  | e :: es => match d.E sc e, dFs d sc es with
    | some m, some ms => some (m :: ms)
    | _, _ => none
/-- a method of a text -/
def dStr (cfg : Cfg) (d : Den) (sc : Scope) (o : Expr) (m : Str) (args : List Expr) : Option (EM RV) := match args with
  | [a] => if isStar a || isSup o then none else match dO cfg d sc true o, dO cfg d sc true a with
    | some mo, some ma => if m = "split" then some (strM1 mo ma splitP) else if m = "join" then some (strM1 mo ma joinP) else none
    | _, _ => none
  | _ => none
def dE (cfg : Cfg) (d : Den) (sc : Scope) : Expr → Option (EM RV)
  | .Constant c _ _ => match c with
    | .int i => some (EM.ret (.val (.int i)))
    | .bool b => some (EM.ret (.val (.bl b)))
    | .str x => some (EM.ret (.val (.str x)))
    | .none => some (EM.ret (.val .non))
    | _ => none
  | .Name x _ => match slotOf cfg sc x with
    | some i => some (getM i)
    | none => if okName x && isGlob sc x then (cfg.consts.find? (fun p => p.1 == x)).map fun p => EM.ret (.val p.2) else none
  | .Tuple es _ _ => (dV d sc es).map tupM
  | .List es _ => (dV d sc es).map lstM
  | .BinOp a op b _ => match dO cfg d sc true a, dO cfg d sc true b with
    | some m, some n => some (two m n (opB op))
    | _, _ => none
  | .UnaryOp op a _ => match op with
    | .USub => (dO cfg d sc true a).map fun m => one m opNeg
    | .Not => (dO cfg d sc true a).map notV
    | _ => none
  | .BoolOp op es _ => dBE d sc op es
  | .Compare a ops bs _ => match ops, bs with
    | [op], [b] => if behindInMarks op b then none else match dO cfg d sc true a, dO cfg d sc true b with
      | some m, some n => some (two m n (opC op))
      | _, _ => none
    | [op, op'], [b, c] => if lastMarks [op, op'] [b, c] then none else match dO cfg d sc true a, dO cfg d sc true b, dO cfg d sc true c with
      | some m, some n, some k => some (chainM m n k op op')
      | _, _, _ => none
    | _, _ => none
  | .IfExp t a b _ => match d.T sc t, d.E sc a, d.E sc b with
    | some t, some a, some b => some (iteM t a b)
    | _, _, _ => none
  | .Subscript a b _ => if isSlice b then none else match dO cfg d sc true a, dO cfg d sc true b with
    | some m, some n => some (ixM m n)
    | _, _ => none
  | .Call f args kws cpos => match f with
    | .Name x _ => if x = "isinstance" then dIsi cfg d sc args kws else dCall cfg d sc x args kws
    | .Attribute o m apos => if kws.isEmpty && (apos.endLine == cpos.line) then (if m = "split" ∨ m = "join" then dStr cfg d sc o m args else match o with
      | .Name x _ => dMeth cfg d sc x m args
      | _ => none) else none
    | _ => none
  | .ListComp elt gs scope _ => dLc cfg d sc elt gs scope
  | .FormattedValue a c f _ => match f with
    | none => if c = -1 then (dO cfg d sc true a).map fun m => one m fmtP else none
    | some _ => none
  | .JoinedStr es _ => match es with
    | [e] => d.E sc e
    | e :: e' :: es => (dFs d sc (e :: e' :: es)).map fun ms => fjM ms Str.empty
    | [] => none
  | _ => none
def plainT : Expr → Bool
  | .UnaryOp .Not _ _ => false
  | .BoolOp _ _ _ => false
  | .IfExp _ _ _ _ => false
  | .Compare _ _ _ _ => false
  | _ => true
def dT (cfg : Cfg) (d : Den) (sc : Scope) : Expr → Option (EM Bool)
  | .UnaryOp .Not a _ => (d.T sc a).map notT
  | .BoolOp op es _ => dBT d sc op es
  | .Compare a ops bs _ => match ops, bs with
    | [op], [b] => if behindInMarks op b then none else match dO cfg d sc true a, dO cfg d sc true b with
      | some m, some n => some (boolM (two m n (opC op)))
      | _, _ => none
    | [op, op'], [b, c] => if lastMarks [op, op'] [b, c] then none else match dO cfg d sc true a, dO cfg d sc true b, dO cfg d sc true c with
      | some m, some n, some k => some (boolM (chainM m n k op op'))
      | _, _, _ => none
    | _, _ => none
  | e => if plainT e then (dO cfg d sc true e).map truM else none
def den (cfg : Cfg) : Nat → Den
  | 0 => ⟨fun _ _ => none, fun _ _ => none⟩
  | n + 1 => ⟨fun sc e => some ((dE cfg (den cfg n) sc e).getD EM.bad), fun sc e => some ((dT cfg (den cfg n) sc e).getD EM.bad)⟩

/-! ### it is right -/
def DenOk (cfg : Cfg) (ca : Str → Addr) (lvl : Nat) (d : Den) : Prop := ∀ X, Good cfg ca lvl X → (∀ e m, d.E X.env.scope e = some m → JE X ca m e) ∧ ∀ e m, d.T X.env.scope e = some m → JT X ca m e
section
variable {cfg : Cfg} {ca : Str → Addr} {lvl : Nat} {X : Cx} {d : Den}
theorem okName_inv {x : Str} (h : okName x = true) : (x == ("__debug__" : Str)) = false ∧ (x == ("__classdict__" : Str)) = false ∧ x ≠ "__name__" := by
  unfold okName at h
  simp only [Bool.and_eq_true, Bool.not_eq_true'] at h
  exact ⟨h.1.1, h.1.2, beq_eq_false_iff_ne.mp h.2⟩
theorem isVis_inv {sc : Scope} {x : Str} (h : isVis sc x = true) : Vis sc x := by
  unfold isVis at h
  split at h
  · exact .inl (by assumption)
  · exact .inr (.inl (by assumption))
  · exact .inr (.inr (by assumption))
  · cases h
theorem isLoc_inv {sc : Scope} {x : Str} (h : isLoc sc x = true) : Loc sc x := by
  unfold isLoc at h
  split at h
  · exact .inl (by assumption)
  · exact .inr (by assumption)
  · cases h
theorem isGlob_inv {x : Str} (h : isGlob X.env.scope x = true) : Gl X x := by
  unfold isGlob at h
  split at h
  · assumption
  · cases h
theorem findIdx_get {N : List Str} {x : Str} {i : Nat} (h : N.findIdx? (· == x) = some i) : N[i]? = some x := by
  rw [List.findIdx?_eq_some_iff_getElem] at h
  obtain ⟨hi, h1, _⟩ := h
  rw [List.getElem?_eq_getElem hi]
  exact congrArg some (beq_iff_eq.mp h1)
theorem slotOf_inv (G : Good cfg ca lvl X) {x : Str} {i : Nat} (h : slotOf cfg X.env.scope x = some i) : X.N[i]? = some x ∧ Vis X.env.scope x ∧ (x == ("__debug__" : Str)) = false ∧ (x == ("__classdict__" : Str)) = false := by
  unfold slotOf at h
  split at h
  · rename_i z
    obtain ⟨z1, z2⟩ := Bool.and_eq_true_iff.mp z
    obtain ⟨a, b, _⟩ := okName_inv z1
    exact ⟨by rw [G.hN]; exact findIdx_get h, isVis_inv z2, a, b⟩
  · cases h
theorem dO_ok (D : DenOk cfg ca lvl d) (G : Good cfg ca lvl X) {b : Bool} {e : Expr} {m : EM Opd} (h : dO cfg d X.env.scope b e = some m) : JO X ca m e := by
  have gen : ∀ {e : Expr} {m : EM Opd}, (d.E X.env.scope e).map opdM = some m → JO X ca m e := fun {e m} h => by
    cases z : d.E X.env.scope e with
    | none => rw [z] at h; cases h
    | some n => rw [z] at h; cases h; exact jo_of ((D X G).1 e n z)
  unfold dO at h
  split at h
  · rename_i x p
    split at h
    · rename_i i hi
      cases h
      obtain ⟨h1, h2, h3, h4⟩ := slotOf_inv G hi
      exact jo_name h1 h2 h3 h4
    · exact gen h
  · exact gen h
theorem dA_ok (D : DenOk cfg ca lvl d) (G : Good cfg ca lvl X) : ∀ {bs : List Bool} {es : List Expr} {m : EM (List Opd)}, dA cfg d X.env.scope bs es = some m → JA X ca m es
  | _, [], m, h => by unfold dA at h; cases h; exact ja_nil
  | bs, e :: es, m, h => by
    unfold dA at h
    split at h
    · cases h
    · rename_i hs
      cases z1 : dO cfg d X.env.scope (bs.headD false) e with
      | none => simp only [z1] at h; cases h
      | some n =>
        cases z2 : dA cfg d X.env.scope bs.tail es with
        | none => simp only [z1, z2] at h; cases h
        | some ns =>
          simp only [z1, z2] at h
          cases h
          exact ja_cons (by simpa using hs) (dO_ok D G z1) (dA_ok D G z2)
theorem dV_ok (D : DenOk cfg ca lvl d) (G : Good cfg ca lvl X) : ∀ {es : List Expr} {m : EM (List PV)}, dV d X.env.scope es = some m → JV X ca m es
  | [], m, h => by unfold dV at h; cases h; exact jv_nil
  | e :: es, m, h => by
    unfold dV at h
    split at h
    · cases h
    · rename_i hs
      cases z1 : d.E X.env.scope e with
      | none => simp only [z1] at h; cases h
      | some n =>
        cases z2 : dV d X.env.scope es with
        | none => simp only [z1, z2] at h; cases h
        | some ns =>
          simp only [z1, z2] at h
          cases h
          exact jv_cons (by simpa using hs) ((D X G).1 e n z1) (dV_ok D G z2)
theorem dK_ok (D : DenOk cfg ca lvl d) (G : Good cfg ca lvl X) : ∀ {ks : List Keyword} {m : EM (List Opd)}, dK d X.env.scope ks = some m → JK X ca m ks
  | [], m, h => by unfold dK at h; cases h; exact jk_nil
  | ⟨nm, e, p⟩ :: ks, m, h => by
    unfold dK at h
    cases z1 : d.E X.env.scope e with
    | none => simp only [z1] at h; cases h
    | some n =>
      cases z2 : dK d X.env.scope ks with
      | none => simp only [z1, z2] at h; cases h
      | some ns =>
        simp only [z1, z2] at h
        cases h
        exact jk_cons (jo_of ((D X G).1 e n z1)) (dK_ok D G z2)
theorem dBE_ok (D : DenOk cfg ca lvl d) (G : Good cfg ca lvl X) {op : BoolOp} {pos : Pos} : ∀ {es : List Expr} {m : EM RV}, dBE d X.env.scope op es = some m → JE X ca m (.BoolOp op es pos)
  | [], m, h => by cases h
  | [e], m, h => je_one ((D X G).1 e m h)
  | e :: e' :: es, m, h => by
    unfold dBE at h
    cases z1 : d.E X.env.scope e with
    | none => simp only [z1] at h; cases h
    | some n =>
      cases z2 : dBE d X.env.scope op (e' :: es) with
      | none => simp only [z1, z2] at h; cases h
      | some ns =>
        simp only [z1, z2] at h
        cases op with
        | And => cases h; exact je_and ((D X G).1 e n z1) (dBE_ok D G z2)
        | Or => cases h; exact je_or ((D X G).1 e n z1) (dBE_ok D G z2)
theorem dBT_ok (D : DenOk cfg ca lvl d) (G : Good cfg ca lvl X) {op : BoolOp} {pos : Pos} : ∀ {es : List Expr} {m : EM Bool}, dBT d X.env.scope op es = some m → JW X ca m (.BoolOp op es pos)
  | [], m, h => by cases h
  | [e], m, h => by
    cases op with
    | And => exact jw_and1 ((D X G).2 e m h)
    | Or => exact jw_or1 ((D X G).2 e m h)
  | e :: e' :: es, m, h => by
    unfold dBT at h
    cases z1 : d.T X.env.scope e with
    | none => simp only [z1] at h; cases h
    | some n =>
      cases z2 : dBT d X.env.scope op (e' :: es) with
      | none => simp only [z1, z2] at h; cases h
      | some ns =>
        simp only [z1, z2] at h
        cases op with
        | And => cases h; exact jw_and ((D X G).2 e n z1) (dBT_ok D G z2)
        | Or => cases h; exact jw_or ((D X G).2 e n z1) (dBT_ok D G z2)
theorem bltB_ok (hc : X.calm = true) {rp : Bool} (hg : rp = true → X.A.guards = some []) (hu : X.A.units + 66 < cLine) {x : Str} {f : List PV → EM RV} (h : bltB rp x = some f) : ∃ id, bootBuiltins x = some (.builtin id) ∧ ∀ W, CallR X (.builtin id) (rSemN X.K ca W f) := by
  unfold bltB at h
  split at h
  · rename_i e
    subst e
    split at h
    · rename_i z
      cases h
      exact ⟨"repr", by decide +kernel, cs_repr (hg z) hu⟩
    · cases h
  · repeat (first | (split at h; · (rename_i e; subst e; cases h; first | exact ⟨"len", by decide +kernel, cs_len⟩ | exact ⟨"abs", by decide +kernel, cs_abs⟩ | exact ⟨"max", by decide +kernel, cs_max hc⟩ | exact ⟨"min", by decide +kernel, cs_min hc⟩ | exact ⟨"any", by decide +kernel, cs_any hc⟩ | exact ⟨"all", by decide +kernel, cs_all hc⟩ | exact ⟨"sorted", by decide +kernel, cs_sorted⟩)) | (cases h; done))
theorem bltT_ok {x : Str} {f : List PV → EM RV} (h : bltT x = some f) : ∃ id, bootBuiltins x = some (.type id) ∧ ∀ W, CallR X (.type id) (rSemN X.K ca W f) := by
  unfold bltT at h
  repeat (first | (split at h; · (rename_i e; subst e; cases h; first | exact ⟨"int", by decide +kernel, cs_int'⟩ | exact ⟨"str", by decide +kernel, cs_str⟩ | exact ⟨"list", by decide +kernel, cs_list⟩ | exact ⟨"tuple", by decide +kernel, cs_tuple⟩)) | (cases h; done))
theorem dCall_ok (D : DenOk cfg ca lvl d) (G : Good cfg ca lvl X) {x : Str} {args : List Expr} {kws : List Keyword} {m : EM RV} {p pos : Pos} (h : dCall cfg d X.env.scope x args kws = some m) : JE X ca m (.Call (.Name x p) args kws pos) := by
  unfold dCall at h
  split at h
  · rename_i hx
    obtain ⟨x1, x2⟩ := Bool.and_eq_true_iff.mp hx
    obtain ⟨n1, n2, n3⟩ := okName_inv x1
    have hg := isGlob_inv (X := X) x2
    split at h
    · rename_i E hE
      have eN0 := List.find?_some hE
      have eN : E.name = x := beq_iff_eq.mp eN0
      have mE : E ∈ cfg.fns := List.mem_of_find?_eq_some hE
      split at h
      · rename_i s hs
        have q := List.find?_some hs
        have ms : s ∈ E.shapes := List.mem_of_find?_eq_some hs
        obtain ⟨q1, q2⟩ := Bool.and_eq_true_iff.mp q
        have q2 := of_decide_eq_true q2
        split at h
        · rename_i hst
          obtain ⟨t1, t2⟩ := Bool.and_eq_true_iff.mp hst
          have hq : ∀ q ∈ kws, q.arg.isSome = true := fun q hq => List.all_eq_true.mp t2 q hq
          subst eN
          cases z1 : dA cfg d X.env.scope E.bor args with
          | none => simp only [z1] at h; cases h
          | some ma =>
            cases z2 : dK d X.env.scope kws with
            | none => simp only [z1, z2] at h; cases h
            | some mk =>
              simp only [z1, z2] at h
              cases h
              cases args with
              | nil =>
                have : ma = opdsNil := by unfold dA at z1; cases z1; rfl
                subst this
                exact je_call0 (G.fns E mE) G.gd G.room hg ms hq q2 n1 (dK_ok D G z2)
              | cons a as => exact je_call (G.fns E mE) G.gd G.room hg ms t1 hq q2 n1 (dA_ok D G z1) (dK_ok D G z2)
        · cases h
      · cases h
    · split at h
      · rename_i hf
        simp only [Bool.and_eq_true] at hf
        obtain ⟨⟨⟨f1, f2⟩, f3⟩, f4⟩ := hf
        have hk : kws = [] := by simpa using f2
        subst hk
        have hm : X.mg x = none := G.frees x (by simpa using f1)
        cases args with
        | nil => simp at f4
        | cons a as =>
          split at h
          · rename_i f hf
            cases z1 : dA cfg d X.env.scope (List.replicate 9 true) (a :: as) with
            | none => rw [z1] at h; cases h
            | some ma =>
              rw [z1] at h
              cases h
              obtain ⟨id, b1, b2⟩ := bltB_ok (ca := ca) G.calm G.gd (by have := G.room.un; omega) hf
              exact je_blt b2 hg hm b1 n3 n1 f3 (dA_ok D G z1)
          · split at h
            · rename_i f hf
              cases z1 : dA cfg d X.env.scope (List.replicate 9 true) (a :: as) with
              | none => rw [z1] at h; cases h
              | some ma =>
                rw [z1] at h
                cases h
                obtain ⟨id, b1, b2⟩ := bltT_ok (X := X) (ca := ca) hf
                exact je_bty b2 hg hm b1 n3 n1 f3 (dA_ok D G z1)
            · cases h
      · cases h
  · cases h
theorem dMeth_ok (D : DenOk cfg ca lvl d) (G : Good cfg ca lvl X) {x me : Str} {args : List Expr} {m : EM RV} {px apos cpos : Pos} (hl : (apos.endLine == cpos.line) = true) (h : dMeth cfg d X.env.scope x me args = some m) :
    JE X ca m (.Call (.Attribute (.Name x px) me apos) args [] cpos) := by
  unfold dMeth at h
  split at h
  · rename_i i a hi
    obtain ⟨h1, h2, h3, h4⟩ := slotOf_inv G hi
    split at h
    · cases h
    · rename_i hs
      have hs : isStar a = false := by simpa using hs
      split at h
      · rename_i e
        subst e
        cases z : d.E X.env.scope a with
        | none => rw [z] at h; cases h
        | some n => rw [z] at h; cases h; exact je_app h1 h2 h3 h4 hl hs ((D X G).1 a n z)
      · split at h
        · rename_i e
          subst e
          cases z : dO cfg d X.env.scope true a with
          | none => rw [z] at h; cases h
          | some n => rw [z] at h; cases h; exact je_ext h1 h2 h3 h4 hl hs (dO_ok D G z)
        · cases h
  · cases h
theorem locOf_inv (G : Good cfg ca lvl X) {fo : Str → Bool} (hfo : ∀ x, fo x = true → X.fn x = true) {x : Str} {i : Nat} (h : locOf cfg fo X.env.scope x = some i) : X.N[i]? = some x ∧ Loc X.env.scope x ∧ (X.fn x = true ∨ X.env.scope.names.lookup x = some .local) := by
  unfold locOf at h
  split at h
  · rename_i z
    simp only [Bool.and_eq_true, Bool.or_eq_true, decide_eq_true_eq] at z
    exact ⟨by rw [G.hN]; exact findIdx_get h, isLoc_inv z.1, z.2.imp (hfo x) id⟩
  · cases h
theorem locsOf_inv (G : Good cfg ca lvl X) {fo : Str → Bool} (hfo : ∀ x, fo x = true → X.fn x = true) : ∀ {es : List Expr} {is : List Nat}, locsOf cfg fo X.env.scope es = some is → NamesAt X es is
  | [], is, h => by cases h; rfl
  | e :: es, is, h => by
    cases e with
    | Name x p =>
      unfold locsOf at h
      cases z1 : locOf cfg fo X.env.scope x with
      | none => simp only [z1] at h; cases h
      | some i =>
        cases z2 : locsOf cfg fo X.env.scope es with
        | none => simp only [z1, z2] at h; cases h
        | some js =>
          simp only [z1, z2] at h
          cases h
          obtain ⟨h1, h2, h3⟩ := locOf_inv G hfo z1
          exact ⟨i, js, x, p, rfl, rfl, h1, h2, h3, locsOf_inv G hfo z2⟩
    | _ => cases h
theorem dG_ok (G : Good cfg ca lvl X) {fo : Str → Bool} (hfo : ∀ x, fo x = true → X.fn x = true) {tg : Expr} {t : Tgt} (h : dG cfg fo X.env.scope tg = some t) : JG X t tg := by
  cases tg with
  | Name x p =>
    unfold dG at h
    dsimp only at h
    cases z : locOf cfg fo X.env.scope x with
    | none => rw [z] at h; cases h
    | some i =>
      rw [z] at h
      cases h
      obtain ⟨h1, h2, h3⟩ := locOf_inv G hfo z
      exact jg_name (by rw [G.hN]; exact G.nd) h1 h2 h3
  | Tuple es k p =>
    unfold dG at h
    dsimp only at h
    cases z : locsOf cfg fo X.env.scope es with
    | none => rw [z] at h; cases h
    | some is =>
      rw [z] at h
      cases h
      exact jg_tup G.calm (by rw [G.hN]; exact G.nd) (locsOf_inv G hfo z)
  | _ => cases h
theorem dI_ok (D : DenOk cfg ca lvl d) (G : Good cfg ca lvl X) {tg iter : Expr} {m : EM (List PV)} (h : dI cfg d X.env.scope iter = some m) : JI X ca m tg iter ∧ fSeq iter = false := by
  unfold dI at h
  split at h
  · cases h
  · rename_i hs
    refine ⟨?_, by simpa using hs⟩
    have gen : ∀ {m : EM (List PV)}, (d.E X.env.scope iter).map itV = some m → JI X ca m tg iter := fun {m} h => by
      cases z : d.E X.env.scope iter with
      | none => rw [z] at h; cases h
      | some n => rw [z] at h; cases h; exact ji_val ((D X G).1 iter n z)
    split at h
    · split at h
      · rename_i ef
        subst ef
        split at h
        · rename_i hh
          simp only [Bool.and_eq_true, Bool.not_eq_true'] at hh
          obtain ⟨⟨h1, h2⟩, h3⟩ := hh
          cases z : dA cfg d X.env.scope [true] [_] with
          | none => rw [z] at h; cases h
          | some n => rw [z] at h; cases h; exact ji_rng1 (isGlob_inv h1) (G.frees _ (by simpa using h2)) h3 (dA_ok D G z)
        · cases h
      · exact gen h
    · split at h
      · rename_i ef
        subst ef
        split at h
        · rename_i hh
          simp only [Bool.and_eq_true, Bool.not_eq_true'] at hh
          obtain ⟨⟨⟨h1, h2⟩, h3⟩, h4⟩ := hh
          cases z : dA cfg d X.env.scope [true, true] [_, _] with
          | none => rw [z] at h; cases h
          | some n => rw [z] at h; cases h; exact ji_rng2 (isGlob_inv h1) (G.frees _ (by simpa using h2)) h3 h4 (dA_ok D G z)
        · cases h
      · exact gen h
    · exact gen h
theorem tyName_inv {x : Str} {t : String} (h : tyName x = some t) : bootBuiltins x = some (.type t) := by
  unfold tyName at h
  repeat (first | (split at h; · (rename_i e; subst e; cases h; decide +kernel)) | (cases h; done))
theorem dTy_inv (G : Good cfg ca lvl X) {e : Expr} {t : String} (h : dTy cfg X.env.scope e = some t) : ∃ y p, e = .Name y p ∧ Gl X y ∧ X.mg y = none ∧ bootBuiltins y = some (.type t) ∧ y ≠ "__name__" ∧ (y == ("__debug__" : Str)) = false := by
  cases e with
  | Name y p =>
    unfold dTy at h
    dsimp only at h
    split at h
    · rename_i z
      simp only [Bool.and_eq_true] at z
      obtain ⟨⟨z1, z2⟩, z3⟩ := z
      obtain ⟨n1, n2, n3⟩ := okName_inv z1
      exact ⟨y, p, rfl, isGlob_inv z2, G.frees _ (by simpa using z3), tyName_inv h, n3, n1⟩
    · cases h
  | _ => cases h
theorem dTys_inv (G : Good cfg ca lvl X) : ∀ {es : List Expr} {ts : List String}, dTys cfg X.env.scope es = some ts → TyNames X es ts
  | [], ts, h => by cases h; rfl
  | e :: es, ts, h => by
    unfold dTys at h
    cases z1 : dTy cfg X.env.scope e with
    | none => simp only [z1] at h; cases h
    | some t =>
      cases z2 : dTys cfg X.env.scope es with
      | none => simp only [z1, z2] at h; cases h
      | some ts' =>
        simp only [z1, z2] at h
        cases h
        obtain ⟨y, p, h1, h2, h3, h4, h5, h6⟩ := dTy_inv G z1
        exact ⟨y, p, t, ts', h1, rfl, h2, h3, h4, h5, h6, dTys_inv G z2⟩
theorem dIsi_ok (D : DenOk cfg ca lvl d) (G : Good cfg ca lvl X) {args : List Expr} {kws : List Keyword} {m : EM RV} {p pos : Pos} (h : dIsi cfg d X.env.scope args kws = some m) : JE X ca m (.Call (.Name "isinstance" p) args kws pos) := by
  unfold dIsi at h
  split at h
  · rename_i hh
    simp only [Bool.and_eq_true] at hh
    obtain ⟨⟨h1, h2⟩, h3⟩ := hh
    have hk : kws = [] := by simpa using h3
    subst hk
    have hg := isGlob_inv (X := X) h1
    have hm : X.mg "isinstance" = none := G.frees _ (by simpa using h2)
    split at h
    · rename_i a t
      split at h
      · cases h
      · rename_i hs
        cases z1 : dO cfg d X.env.scope true a with
        | none => simp only [z1] at h; cases h
        | some n =>
          simp only [z1] at h
          split at h
          · rename_i es k pt
            cases z2 : dTys cfg X.env.scope es with
            | none => simp only [z2] at h; cases h
            | some ts =>
              simp only [z2] at h
              split at h
              · rename_i hz
                cases h
                exact je_isiT hg hm (dTys_inv G z2) (of_decide_eq_true hz) (by simpa using hs) (dO_ok D G z1)
              · cases h
          · cases z2 : dTy cfg X.env.scope t with
            | none => simp only [z2] at h; cases h
            | some ty =>
              simp only [z2] at h
              cases h
              obtain ⟨y, py, rfl, g1, g2, g3, g4, g5⟩ := dTy_inv G z2
              exact je_isi hg hm g1 g2 g3 g4 g5 (by simpa using hs) (dO_ok D G z1)
    · cases h
  · cases h
/-! #### comprehensions -/
theorem Good.blk (G : Good cfg ca lvl X) {s : Shared} {H : Hp} {scope : Scope} {cenv : Env} {fp : List Addr} : Good cfg ca lvl (X.blk s H scope cenv fp) := ⟨G.hN, G.nd, G.calm, G.room, G.fns, G.gd, G.consts, G.frees⟩
theorem dTst_ok (D : DenOk cfg ca lvl d) (G : Good cfg ca lvl X) {ifs : List Expr} {t : Tst} (h : dTst d X.env.scope ifs = some t) : t.J X ca ifs := by
  unfold dTst at h
  split at h
  · cases h; rfl
  · rename_i e
    cases z : d.T X.env.scope e with
    | none => rw [z] at h; cases h
    | some m => rw [z] at h; cases h; exact ⟨e, rfl, (D X G).2 e m z⟩
  · cases h
theorem inOwn_inv {own : List (Str × Nat)} {t : Tgt} (h : inOwn own t = true) : ∀ i ∈ t.ws, i ∈ own.map (·.2) := fun i hi => by
  have := List.all_eq_true.mp h i hi
  simpa using this
/-- name = [..] may be stored within -/
def swB (sc scope : Scope) (y : Str) (py vp : Pos) : Bool := decide (sc.names.lookup y = some .local) && (py.line == vp.line) && !(scope.names.any fun (n, k) => n == y && (k == .local || k == .cell))
theorem dLc_ok (D : DenOk cfg ca lvl d) (G : Good cfg ca lvl X) {elt : Expr} {gs : List Comprehension} {scope : Scope} {m : EM RV} (h : dLc cfg d X.env.scope elt gs scope = some m) :
    (∀ pos, JE X ca m (.ListComp elt gs scope pos)) ∧ ∀ (i : Nat) (y : Str) (py spos pos : Pos), X.env.scope.kind = .function → X.N[i]? = some y → swB X.env.scope scope y py pos = true → JS X ca (asgM i m) (.Assign [.Name y py] (.ListComp elt gs scope pos) spos) := by
  have nd : X.N.Nodup := by rw [G.hN]; exact G.nd
  have sw : ∀ {y : Str} {py spos pos : Pos}, X.env.scope.kind = .function → swB X.env.scope scope y py pos = true → X.env.scope.names.lookup y = some .local ∧ swapsWith (.ListComp elt gs scope pos) (some (.Name y py)) spos.line X.env = pure true := fun {y py spos pos} hk hs => by
    unfold swB at hs
    simp only [Bool.and_eq_true, decide_eq_true_eq, Bool.not_eq_true'] at hs
    exact ⟨hs.1.1, sw_true hk hs.1.1 hs.1.2 hs.2⟩
  unfold dLc at h
  split at h
  · rename_i hb
    have bk : BlkOk X.N X.env.scope scope (ownOf cfg scope) := by rw [G.hN]; exact blkOk_by hb
    generalize ownOf cfg scope = own at bk h
    have gI : ∀ {iter tg : Expr} {m : EM (List PV)}, dI cfg d (relS scope X.env.scope) iter = some m → inBlk X scope fun Y => JI Y ca m tg iter := fun {iter tg m} z s H C cl fp => (dI_ok D (G.blk (s := s) (H := H) (scope := scope) (cenv := compEnvC scope cl C X.env) (fp := fp)) z).1
    have gG : ∀ {tg : Expr} {t : Tgt}, dG cfg (blkFo scope) (relS scope X.env.scope) tg = some t → inBlk X scope fun Y => JG Y t tg := fun {tg t} z s H C cl fp => dG_ok (G.blk (s := s) (H := H) (scope := scope) (cenv := compEnvC scope cl C X.env) (fp := fp)) (fun x hx => hx) z
    have gT : ∀ {ifs : List Expr} {t : Tst}, dTst d (relS scope X.env.scope) ifs = some t → inBlk X scope fun Y => t.J Y ca ifs := fun {ifs t} z s H C cl fp => dTst_ok D (G.blk (s := s) (H := H) (scope := scope) (cenv := compEnvC scope cl C X.env) (fp := fp)) z
    have gE : ∀ {e : Expr} {m : EM RV}, d.E (relS scope X.env.scope) e = some m → inBlk X scope fun Y => JE Y ca m e := fun {e m} z s H C cl fp => (D _ (G.blk (s := s) (H := H) (scope := scope) (cenv := compEnvC scope cl C X.env) (fp := fp))).1 e m z
    split at h
    · rename_i tg iter ifs a
      split at h
      · rename_i ha
        subst ha
        unfold dLc1 at h
        cases z1 : dI cfg d X.env.scope iter with
        | none => simp only [z1] at h; cases h
        | some m1 =>
        cases z2 : dG cfg (blkFo scope) (relS scope X.env.scope) tg with
        | none => simp only [z1, z2] at h; cases h
        | some t =>
        cases z3 : dTst d (relS scope X.env.scope) ifs with
        | none => simp only [z1, z2, z3] at h; cases h
        | some ts =>
        cases z4 : d.E (relS scope X.env.scope) elt with
        | none => simp only [z1, z2, z3, z4] at h; cases h
        | some te =>
        simp only [z1, z2, z3, z4] at h
        split at h
        · rename_i ho
          cases h
          obtain ⟨ji, hset⟩ := dI_ok (tg := tg) D G z1
          exact ⟨fun pos => je_lc G.calm nd hset ji bk (inOwn_inv ho) (gG z2) (gT z3) (gE z4), fun i y py spos pos hk hy hs => js_setLc G.calm nd hy (sw hk hs (spos := spos)).1 (sw hk hs).2 hset ji bk (inOwn_inv ho) (gG z2) (gT z3) (gE z4)⟩
        · cases h
      · cases h
    · rename_i tg iter ifs a tg1 iter1 ifs1 a1
      split at h
      · rename_i ha
        obtain ⟨ha, ha1⟩ := ha
        subst ha; subst ha1
        unfold dLc2 at h
        cases z1 : dI cfg d X.env.scope iter with
        | none => simp only [z1] at h; cases h
        | some m1 =>
        cases z2 : dG cfg (blkFo scope) (relS scope X.env.scope) tg with
        | none => simp only [z1, z2] at h; cases h
        | some t =>
        cases z3 : dTst d (relS scope X.env.scope) ifs with
        | none => simp only [z1, z2, z3] at h; cases h
        | some ts =>
        cases z4 : dI cfg d (relS scope X.env.scope) iter1 with
        | none => simp only [z1, z2, z3, z4] at h; cases h
        | some m2 =>
        cases z5 : dG cfg (blkFo scope) (relS scope X.env.scope) tg1 with
        | none => simp only [z1, z2, z3, z4, z5] at h; cases h
        | some t1 =>
        cases z6 : dTst d (relS scope X.env.scope) ifs1 with
        | none => simp only [z1, z2, z3, z4, z5, z6] at h; cases h
        | some ts1 =>
        cases z7 : d.E (relS scope X.env.scope) elt with
        | none => simp only [z1, z2, z3, z4, z5, z6, z7] at h; cases h
        | some te =>
        simp only [z1, z2, z3, z4, z5, z6, z7] at h
        split at h
        · rename_i ho
          obtain ⟨ho, ho1⟩ := Bool.and_eq_true_iff.mp ho
          cases h
          obtain ⟨ji, hset⟩ := dI_ok (tg := tg) D G z1
          have hset1 : fSeq iter1 = false := by
            unfold dI at z4
            split at z4
            · cases z4
            · rename_i w; simpa using w
          exact ⟨fun pos => je_lc2 G.calm nd hset hset1 ji bk (inOwn_inv ho) (inOwn_inv ho1) (gG z2) (gT z3) (gI z4) (gG z5) (gT z6) (gE z7), fun i y py spos pos hk hy hs => js_setLc2 G.calm nd hy (sw hk hs (spos := spos)).1 (sw hk hs).2 hset hset1 ji bk (inOwn_inv ho) (inOwn_inv ho1) (gG z2) (gT z3) (gI z4) (gG z5) (gT z6) (gE z7)⟩
        · cases h
      · cases h
    · cases h
  · cases h
theorem dFs_ok (D : DenOk cfg ca lvl d) (G : Good cfg ca lvl X) : ∀ {es : List Expr} {ms : List (EM RV)}, dFs d X.env.scope es = some ms → JJ X ca ms es
  | [], ms, h => by cases h; exact .nil
  | e :: es, ms, h => by
    unfold dFs at h
    cases z1 : d.E X.env.scope e with
    | none => simp only [z1] at h; cases h
    | some m =>
      cases z2 : dFs d X.env.scope es with
      | none => simp only [z1, z2] at h; cases h
      | some ms' => simp only [z1, z2] at h; cases h; exact .cons ((D X G).1 e m z1) (dFs_ok D G z2)
theorem dStr_ok (D : DenOk cfg ca lvl d) (G : Good cfg ca lvl X) {o : Expr} {me : Str} {args : List Expr} {m : EM RV} {apos cpos : Pos} (hl : (apos.endLine == cpos.line) = true) (h : dStr cfg d X.env.scope o me args = some m) : JE X ca m (.Call (.Attribute o me apos) args [] cpos) := by
  unfold dStr at h
  split at h
  · rename_i a
    split at h
    · cases h
    · rename_i hs
      simp only [Bool.or_eq_true, not_or, Bool.not_eq_true] at hs
      cases z1 : dO cfg d X.env.scope true o with
      | none => simp only [z1] at h; cases h
      | some n =>
        cases z2 : dO cfg d X.env.scope true a with
        | none => simp only [z1, z2] at h; cases h
        | some k =>
          simp only [z1, z2] at h
          split at h
          · rename_i e
            subst e
            cases h
            exact je_split (notSup hs.2) hl hs.1 (dO_ok D G z1) (dO_ok D G z2)
          · split at h
            · rename_i e
              subst e
              cases h
              exact je_join (notSup hs.2) hl hs.1 (dO_ok D G z1) (dO_ok D G z2)
            · cases h
  · cases h
theorem Good.units (G : Good cfg ca lvl X) : X.A.units + 65 < cLine := by have := G.room.un; omega
theorem dE_ok (D : DenOk cfg ca lvl d) (G : Good cfg ca lvl X) {e : Expr} {m : EM RV} (h : dE cfg d X.env.scope e = some m) : JE X ca m e := by
  cases e with
  | Constant c j pos =>
    cases c with
    | int i => cases h; exact je_int
    | bool b => cases h; exact je_bl
    | str x => cases h; exact je_str
    | none => cases h; exact je_non
    | _ => cases h
  | Name x pos =>
    unfold dE at h
    dsimp only at h
    split at h
    · rename_i i hi
      cases h
      obtain ⟨h1, h2, h3, h4⟩ := slotOf_inv G hi
      exact je_name h1 h2 h3 h4
    · split at h
      · rename_i hx
        obtain ⟨x1, x2⟩ := Bool.and_eq_true_iff.mp hx
        cases z : cfg.consts.find? (fun p => p.1 == x) with
        | none => rw [z] at h; cases h
        | some p =>
          rw [z] at h
          cases h
          have e0 := List.find?_some z
          have e1 : p.1 = x := beq_iff_eq.mp e0
          obtain ⟨u, v, g1, g2, g3⟩ := G.consts p (List.mem_of_find?_eq_some z)
          rw [e1] at g1
          exact je_glob (isGlob_inv x2) g1 g2 g3 (okName_inv x1).1
      · cases h
  | Tuple es k pos =>
    unfold dE at h
    dsimp only at h
    cases z : dV d X.env.scope es with
    | none => rw [z] at h; cases h
    | some n => rw [z] at h; cases h; exact je_tup (dV_ok D G z)
  | List es pos =>
    unfold dE at h
    dsimp only at h
    cases z : dV d X.env.scope es with
    | none => rw [z] at h; cases h
    | some n => rw [z] at h; cases h; exact je_lst (dV_ok D G z)
  | BinOp a op b pos =>
    unfold dE at h
    dsimp only at h
    cases z1 : dO cfg d X.env.scope true a with
    | none => simp only [z1] at h; cases h
    | some n =>
      cases z2 : dO cfg d X.env.scope true b with
      | none => simp only [z1, z2] at h; cases h
      | some k => simp only [z1, z2] at h; cases h; exact je_bin (dO_ok D G z1) (dO_ok D G z2)
  | UnaryOp op a pos =>
    unfold dE at h
    dsimp only at h
    cases z1 : dO cfg d X.env.scope true a with
    | none => cases op <;> simp only [z1] at h <;> cases h
    | some n =>
      cases op <;> simp only [z1] at h <;> cases h
      · exact je_not (dO_ok D G z1)
      · exact je_neg (dO_ok D G z1)
  | BoolOp op es pos => exact dBE_ok D G h
  | Compare a ops bs pos =>
    unfold dE at h
    dsimp only at h
    split at h
    · rename_i op b
      split at h
      · cases h
      · rename_i hm
        cases z1 : dO cfg d X.env.scope true a with
        | none => simp only [z1] at h; cases h
        | some n =>
          cases z2 : dO cfg d X.env.scope true b with
          | none => simp only [z1, z2] at h; cases h
          | some k => simp only [z1, z2] at h; cases h; exact je_cmp G.units (by simpa using hm) (dO_ok D G z1) (dO_ok D G z2)
    · rename_i op op' b c
      split at h
      · cases h
      · rename_i hm
        cases z1 : dO cfg d X.env.scope true a with
        | none => simp only [z1] at h; cases h
        | some n =>
          cases z2 : dO cfg d X.env.scope true b with
          | none => simp only [z1, z2] at h; cases h
          | some k =>
            cases z3 : dO cfg d X.env.scope true c with
            | none => simp only [z1, z2, z3] at h; cases h
            | some l => simp only [z1, z2, z3] at h; cases h; exact je_chain G.units (by simpa using hm) (dO_ok D G z1) (dO_ok D G z2) (dO_ok D G z3)
    · cases h
  | IfExp t a b pos =>
    unfold dE at h
    dsimp only at h
    cases z1 : d.T X.env.scope t with
    | none => simp only [z1] at h; cases h
    | some n =>
      cases z2 : d.E X.env.scope a with
      | none => simp only [z1, z2] at h; cases h
      | some k =>
        cases z3 : d.E X.env.scope b with
        | none => simp only [z1, z2, z3] at h; cases h
        | some l => simp only [z1, z2, z3] at h; cases h; exact je_if ((D X G).2 t n z1) ((D X G).1 a k z2) ((D X G).1 b l z3)
  | Subscript a b pos =>
    unfold dE at h
    dsimp only at h
    split at h
    · cases h
    · rename_i hs
      cases z1 : dO cfg d X.env.scope true a with
      | none => simp only [z1] at h; cases h
      | some n =>
        cases z2 : dO cfg d X.env.scope true b with
        | none => simp only [z1, z2] at h; cases h
        | some k => simp only [z1, z2] at h; cases h; exact je_ix (by simpa using hs) (dO_ok D G z1) (dO_ok D G z2)
  | Call f args kws cpos =>
    unfold dE at h
    dsimp only at h
    split at h
    · split at h
      · rename_i e
        subst e
        exact dIsi_ok D G h
      · exact dCall_ok D G h
    · split at h
      · rename_i hh
        obtain ⟨k1, k2⟩ := Bool.and_eq_true_iff.mp hh
        have hk : kws = [] := by simpa using k1
        subst hk
        split at h
        · exact dStr_ok D G k2 h
        · split at h
          · exact dMeth_ok D G k2 h
          · cases h
      · cases h
    · cases h
  | ListComp elt gs scope pos => exact (dLc_ok D G h).1 pos
  | FormattedValue a c f pos =>
    unfold dE at h
    dsimp only at h
    split at h
    · split at h
      · rename_i e
        subst e
        cases z : dO cfg d X.env.scope true a with
        | none => rw [z] at h; cases h
        | some n => rw [z] at h; cases h; exact je_fmt (dO_ok D G z)
      · cases h
    · cases h
  | JoinedStr es pos =>
    unfold dE at h
    dsimp only at h
    split at h
    · exact je_fj1 ((D X G).1 _ m h)
    · rename_i e e' es
      cases z : dFs d X.env.scope (e :: e' :: es) with
      | none => rw [z] at h; cases h
      | some ms => rw [z] at h; cases h; exact je_fj (dFs_ok D G z)
    · cases h
  | _ => cases h
theorem dT_ok (D : DenOk cfg ca lvl d) (G : Good cfg ca lvl X) {e : Expr} {m : EM Bool} (h : dT cfg d X.env.scope e = some m) : JT X ca m e := by
  have gen : (∀ whole, isTrue e X.env whole = (do let v ← whole; standAt e.pos; holding [v] (truthy v))) → (if plainT e = true then (dO cfg d X.env.scope true e).map truM else none) = some m → JT X ca m e := fun he h => by
    split at h
    · cases z : dO cfg d X.env.scope true e with
      | none => rw [z] at h; cases h
      | some n => rw [z] at h; cases h; exact jt_tru (dO_ok D G z) he
    · cases h
  cases e with
  | UnaryOp op a pos =>
    cases op with
    | Not =>
      unfold dT at h
      dsimp only at h
      cases z : d.T X.env.scope a with
      | none => rw [z] at h; cases h
      | some n => rw [z] at h; cases h; exact jt_not ((D X G).2 a n z)
    | _ => exact gen (fun _ => rfl) h
  | BoolOp op es pos => exact jt_of_w (dBT_ok D G h)
  | IfExp t a b pos => cases h
  | Compare a ops bs pos =>
    unfold dT at h
    dsimp only at h
    split at h
    · rename_i op b
      split at h
      · cases h
      · rename_i hm
        cases z1 : dO cfg d X.env.scope true a with
        | none => simp only [z1] at h; cases h
        | some n =>
          cases z2 : dO cfg d X.env.scope true b with
          | none => simp only [z1, z2] at h; cases h
          | some k => simp only [z1, z2] at h; cases h; exact jt_cmp G.units (by simpa using hm) (dO_ok D G z1) (dO_ok D G z2)
    · rename_i op op' b c
      split at h
      · cases h
      · rename_i hm
        cases z1 : dO cfg d X.env.scope true a with
        | none => simp only [z1] at h; cases h
        | some n =>
          cases z2 : dO cfg d X.env.scope true b with
          | none => simp only [z1, z2] at h; cases h
          | some k =>
            cases z3 : dO cfg d X.env.scope true c with
            | none => simp only [z1, z2, z3] at h; cases h
            | some l => simp only [z1, z2, z3] at h; cases h; exact jt_chain G.units (by simpa using hm) (dO_ok D G z1) (dO_ok D G z2) (dO_ok D G z3)
    · cases h
  | _ => exact gen (fun _ => rfl) h
theorem den_ok : ∀ n, DenOk cfg ca lvl (den cfg n)
  | 0 => fun X G => ⟨fun _ _ h => (by cases h), fun _ _ h => (by cases h)⟩
  | n + 1 => fun X G => ⟨fun e m h => by
      cases h
      cases z : dE cfg (den cfg n) X.env.scope e with
      | none => exact je_bad
      | some m => exact dE_ok (den_ok n) G z, fun e m h => by
      cases h
      cases z : dT cfg (den cfg n) X.env.scope e with
      | none => exact jt_bad
      | some m => exact dT_ok (den_ok n) G z⟩
end
end QB

namespace QB
open PySem L2
structure GoodS (cfg : Cfg) (ca : Str → Addr) (lvl : Nat) (X : Cx) : Prop extends Good cfg ca lvl X where
  fn : ∀ x, X.fn x = true
  passes : PassesOwn (model X.prog X.w) X.A X.env X.xe
  kind : X.env.scope.kind = .function
def allFn : Str → Bool := fun _ => true
/-- a, b = x, y is stored without a tuple -/
def parOk (sc : Scope) (x y : Str) (px py : Pos) (a b : Expr) : Bool :=
  decide (sc.names.lookup x = some .local) && decide (sc.names.lookup y = some .local) && decide (px.line = py.line) && decide (x ≠ y) && !isStar a && !isStar b && !([a, b].all (foldedForSure 8)) && !([a, b].all (constantsAlone 8))
def isTuple : Expr → Bool
  | .Tuple _ _ _ => true
  | _ => false
/-- a, b, .. = e, e no display -/
def unpM (b : Bnd) (m : EM RV) : SM := thenS m fun r e => optS (b r.pv e)
/-- name = [..] is stored as any value is -/
def noSw (sc scope : Scope) (y : Str) (py vp : Pos) : Bool := !(swB sc scope y py vp)
def dS (cfg : Cfg) (d : Den) (bl : Scope → List Stmt → Option SM) (sc : Scope) : Stmt → Option SM
  | .Assign ts a _ => match ts with
    | [.Name x px] => match a with
      | .ListComp elt gs scope pos => match locOf cfg allFn sc x, dLc cfg d sc elt gs scope with
        | some i, some m => if swB sc scope x px pos || noSw sc scope x px pos then some (asgM i m) else none
        | _, _ => none
      | a => if isComp a then none else match locOf cfg allFn sc x, d.E sc a with
        | some i, some m => some (asgM i m)
        | _, _ => none
    | [.Subscript (.Name x _) k _] => if isSlice k || isComp a then none else match slotOf cfg sc x, dO cfg d sc true k, d.E sc a with
      | some i, some mk, some mv => some (setIxM i mk mv)
      | _, _, _ => none
    | [.Tuple es k p] => match es, a with
      | [.Name x px, .Name y py], .Tuple [a, b] _ _ => if parOk sc x y px py a b then match locOf cfg allFn sc x, locOf cfg allFn sc y, dV d sc [a, b] with
        | some i, some j, some m => some (asg2M i j m)
        | _, _, _ => none else none
      | _, _ => if isTuple a || isComp a then none else match dG cfg allFn sc (.Tuple es k p), d.E sc a with
        | some t, some m => some (unpM t.b m)
        | _, _ => none
    | _ => none
  | .Return r _ => match r with
    | some a => (d.E sc a).map retM
    | none => some fun e => .rt (.val .non) e
  | .If t a b _ => match d.T sc t, bl sc a, bl sc b with
    | some t, some a, some b => some (thenS t fun k => if k then a else b)
    | _, _, _ => none
  | .Expr a _ => if isComp a then none else (d.E sc a).map exprM
  | .Pass _ => some skipM
  | .Break _ => some fun e => .bk e
  | .Continue _ => some fun e => .ct e
  | .For tg iter body orelse _ => if !orelse.isEmpty then none else match dG cfg allFn sc tg, dI cfg d sc iter, bl sc body with
    | some t, some m, some mb => some (forI t.b m mb)
    | _, _, _ => none
  | _ => none
def dBl (cfg : Cfg) (d : Den) (bl : Scope → List Stmt → Option SM) (sc : Scope) : List Stmt → SM
  | [] => skipM
  | [s] => (dS cfg d bl sc s).getD badS
  | s :: ss => seqM ((dS cfg d bl sc s).getD badS) (dBl cfg d bl sc ss)
def denB (cfg : Cfg) (d : Den) : Nat → Scope → List Stmt → Option SM
  | 0, _, _ => none
  | n + 1, sc, ss => some (dBl cfg d (denB cfg d n) sc ss)
def BlOk (cfg : Cfg) (ca : Str → Addr) (lvl : Nat) (bl : Scope → List Stmt → Option SM) : Prop := ∀ X, GoodS cfg ca lvl X → ∀ ss m, bl X.env.scope ss = some m → JSs X ca m ss
section
variable {cfg : Cfg} {ca : Str → Addr} {lvl : Nat} {X : Cx} {d : Den} {bl : Scope → List Stmt → Option SM}
theorem GoodS.fo (G : GoodS cfg ca lvl X) : ∀ x, allFn x = true → X.fn x = true := fun x _ => G.fn x
theorem par_swap (G : GoodS cfg ca lvl X) {x y : Str} {px py pt : Pos} {a b : Expr} {kt k2 : Nat} {pt2 : Pos} (h : parOk X.env.scope x y px py a b = true) :
    swappedStores [.Tuple [.Name x px, .Name y py] kt pt] (.Tuple [a, b] k2 pt2) X.env = pure (some [x, y]) := by
  unfold parOk at h
  simp only [Bool.and_eq_true, decide_eq_true_eq, Bool.not_eq_true'] at h
  obtain ⟨⟨⟨⟨⟨⟨⟨h1, h2⟩, h3⟩, h4⟩, h5⟩, h6⟩, h7⟩, h8⟩ := h
  have k1 : X.env.kindOf x = some .local := h1
  have k2 : X.env.kindOf y = some .local := h2
  have hb : X.env.blockKind = .function := by unfold Env.blockKind; rw [G.kind]; rfl
  have e3 : ([x, y].eraseDups.length != [x, y].length) = false := by
    have hne : (y == x) = false := beq_eq_false_iff_ne.mpr (Ne.symm h4)
    have : [x, y].eraseDups = [x, y] := by simp [List.eraseDups_cons, hne]
    rw [this]; simp
  unfold swappedStores
  dsimp only
  have hl : (X.env.kindOf x == some .local && px.line == px.line) = true := by rw [k1]; simp
  have hl2 : (X.env.kindOf y == some .local && py.line == px.line) = true := by rw [k2, h3]; simp
  simp only [List.length_cons, List.length_nil, hb, List.any_cons, List.any_nil, List.filterMap_cons, List.filterMap_nil, List.head?_cons, Option.map_some, Option.getD_some, Expr.pos, hl, hl2, if_true, h7, h8]
  rw [if_neg (by decide), if_neg ?_, if_neg ?_]
  · rfl
  · simp only [List.length_cons, List.length_nil] at e3
    rw [e3]; decide
  · intro h
    rcases Bool.or_eq_true_iff.mp h with h | h
    · revert h
      cases a <;> first | (intro h; cases h; done) | cases h5
    · rcases Bool.or_eq_true_iff.mp h with h | h
      · revert h
        cases b <;> first | (intro h; cases h; done) | cases h6
      · cases h
theorem noswap_tup {es : List Expr} {k : Nat} {p : Pos} {a : Expr} {env : Env} (h : isTuple a = false) : swappedStores [.Tuple es k p] a env = pure none := by
  cases a <;> first | rfl | cases h
theorem js_unp {es : List Expr} {k : Nat} {p : Pos} {a : Expr} {t : Tgt} {m : EM RV} {pos : Pos} (ht : isTuple a = false) (hc : isComp a = false) (hg : JG X t (.Tuple es k p)) (h : JE X ca m a) : JS X ca (unpM t.b m) (.Assign [.Tuple es k p] a pos) := fun W tk => by
  refine PS.imp (ps_asg (h W tk) hg (by unfold swapsWithSole; exact swaps_none hc) (noswap_tup ht) rfl) fun D σ H ⟨c, M, e, S, q⟩ => SRdAt.thenS q S fun r v H1 M1 e1 S1 _ rr q1 => ?_
  unfold SRdAt at q1
  dsimp only at q1
  cases z : t.b r.pv e1 with
  | none => rw [z] at q1; exact False.elim q1
  | some e2 =>
    rw [z] at q1
    exact t.ok c M1 σ H1 e1 r.pv v _ e2 S1 rr.1 z fun σ' S' _ => q1 σ' H1 M1 S'
theorem dS_ok (D : DenOk cfg ca lvl d) (B : BlOk cfg ca lvl bl) (G : GoodS cfg ca lvl X) {s : Stmt} {m : SM} (h : dS cfg d bl X.env.scope s = some m) : JS X ca m s := by
  have nd : X.N.Nodup := by rw [G.hN]; exact G.nd
  cases s with
  | Assign ts a pos =>
    unfold dS at h
    dsimp only at h
    split at h
    · rename_i x px
      split at h
      · rename_i elt gs scope vpos
        cases z1 : locOf cfg allFn X.env.scope x with
        | none => simp only [z1] at h; cases h
        | some i =>
          cases z2 : dLc cfg d X.env.scope elt gs scope with
          | none => simp only [z1, z2] at h; cases h
          | some n =>
            simp only [z1, z2] at h
            obtain ⟨h1, h2, h3⟩ := locOf_inv G.toGood G.fo z1
            obtain ⟨k1, k2⟩ := dLc_ok D G.toGood z2
            cases zs : swB X.env.scope scope x px vpos with
            | true =>
              simp only [zs, Bool.true_or, if_true] at h
              cases h
              exact k2 i x px pos vpos G.kind h1 zs
            | false =>
              have hn : noSw X.env.scope scope x px vpos = true := by unfold noSw; rw [zs]; rfl
              simp only [zs, hn, Bool.or_true, if_true] at h
              cases h
              refine js_setW nd h1 h2 (G.fn x) (fun l => ?_) (k1 vpos)
              have hb : X.env.blockKind = .function := by unfold Env.blockKind; rw [G.kind]; rfl
              unfold swapsWith
              simp only [hb, Expr.pos]
              unfold swB at zs
              have kf : X.env.kindOf x = X.env.scope.names.lookup x := rfl
              rw [kf]
              have e1 : (X.env.scope.names.lookup x == some NameKind.local) = decide (X.env.scope.names.lookup x = some .local) := by
                rw [Bool.eq_iff_iff]; simp
              show pure _ = pure false
              rw [e1]
              congr 1
      · split at h
        · cases h
        · rename_i hc
          cases z1 : locOf cfg allFn X.env.scope x with
          | none => simp only [z1] at h; cases h
          | some i =>
            cases z2 : d.E X.env.scope a with
            | none => simp only [z1, z2] at h; cases h
            | some n =>
              simp only [z1, z2] at h
              cases h
              obtain ⟨h1, h2, h3⟩ := locOf_inv G.toGood G.fo z1
              exact js_set nd h1 h2 (G.fn x) (by simpa using hc) ((D X G.toGood).1 a n z2)
    · rename_i x px k ps
      split at h
      · cases h
      · rename_i hc
        simp only [Bool.or_eq_true, not_or, Bool.not_eq_true] at hc
        cases z1 : slotOf cfg X.env.scope x with
        | none => simp only [z1] at h; cases h
        | some i =>
          cases z2 : dO cfg d X.env.scope true k with
          | none => simp only [z1, z2] at h; cases h
          | some n =>
            cases z3 : d.E X.env.scope a with
            | none => simp only [z1, z2, z3] at h; cases h
            | some l =>
              simp only [z1, z2, z3] at h
              cases h
              obtain ⟨h1, h2, h3, h4⟩ := slotOf_inv G.toGood z1
              exact js_setIx h1 h2 h3 h4 hc.1 hc.2 (dO_ok D G.toGood z2) ((D X G.toGood).1 a l z3)
    · rename_i es k p
      split at h
      · rename_i x px y py a b kt pt
        split at h
        · rename_i hp
          cases z1 : locOf cfg allFn X.env.scope x with
          | none => simp only [z1] at h; cases h
          | some i =>
            cases z2 : locOf cfg allFn X.env.scope y with
            | none => simp only [z1, z2] at h; cases h
            | some j =>
              cases z3 : dV d X.env.scope [a, b] with
              | none => simp only [z1, z2, z3] at h; cases h
              | some l =>
                simp only [z1, z2, z3] at h
                cases h
                obtain ⟨h1, _⟩ := locOf_inv G.toGood G.fo z1
                obtain ⟨h2, _⟩ := locOf_inv G.toGood G.fo z2
                have hp' := hp
                unfold parOk at hp'
                simp only [Bool.and_eq_true, decide_eq_true_eq] at hp'
                obtain ⟨⟨⟨⟨⟨⟨⟨k1, k2⟩, _⟩, k4⟩, _⟩, _⟩, _⟩, _⟩ := hp'
                exact js_par G.calm nd h1 h2 (fun z => k4 (by rw [z, h2] at h1; exact (Option.some.inj h1).symm)) k1 k2 (dV_ok D G.toGood z3) (par_swap G hp)
        · cases h
      · split at h
        · cases h
        · rename_i hc
          simp only [Bool.or_eq_true, not_or, Bool.not_eq_true] at hc
          cases z1 : dG cfg allFn X.env.scope (.Tuple es k p) with
          | none => simp only [z1] at h; cases h
          | some b =>
            cases z2 : d.E X.env.scope a with
            | none => simp only [z1, z2] at h; cases h
            | some n =>
              simp only [z1, z2] at h
              cases h
              exact js_unp hc.1 hc.2 (dG_ok G.toGood G.fo z1) ((D X G.toGood).1 a n z2)
    · cases h
  | Return r pos =>
    cases r with
    | none => cases h; exact js_retN
    | some a =>
      unfold dS at h
      dsimp only at h
      cases z : d.E X.env.scope a with
      | none => rw [z] at h; cases h
      | some n => rw [z] at h; cases h; exact js_ret ((D X G.toGood).1 a n z)
  | If t a b pos =>
    unfold dS at h
    dsimp only at h
    cases z1 : d.T X.env.scope t with
    | none => simp only [z1] at h; cases h
    | some n =>
      cases z2 : bl X.env.scope a with
      | none => simp only [z1, z2] at h; cases h
      | some k =>
        cases z3 : bl X.env.scope b with
        | none => simp only [z1, z2, z3] at h; cases h
        | some l => simp only [z1, z2, z3] at h; cases h; exact js_if ((D X G.toGood).2 t n z1) (B X G a k z2) (B X G b l z3)
  | Expr a pos =>
    unfold dS at h
    dsimp only at h
    split at h
    · cases h
    · rename_i hc
      cases z : d.E X.env.scope a with
      | none => rw [z] at h; cases h
      | some n => rw [z] at h; cases h; exact js_expr (by simpa using hc) ((D X G.toGood).1 a n z)
  | Pass pos => cases h; exact js_pass
  | Break pos => cases h; exact js_break
  | Continue pos => cases h; exact js_continue
  | For tg iter body orelse pos =>
    unfold dS at h
    dsimp only at h
    split at h
    · cases h
    · rename_i ho
      have he : orelse = [] := by simpa using ho
      subst he
      cases z1 : dG cfg allFn X.env.scope tg with
      | none => simp only [z1] at h; cases h
      | some t =>
        cases z2 : dI cfg d X.env.scope iter with
        | none => simp only [z1, z2] at h; cases h
        | some mi =>
          cases z3 : bl X.env.scope body with
          | none => simp only [z1, z2, z3] at h; cases h
          | some mb =>
            simp only [z1, z2, z3] at h
            cases h
            obtain ⟨ji, hset⟩ := dI_ok (tg := tg) D G.toGood z2
            exact js_for G.passes G.calm hset ji (dG_ok G.toGood G.fo z1) (B X G body mb z3)
  | _ => cases h
theorem dS_ok' (D : DenOk cfg ca lvl d) (B : BlOk cfg ca lvl bl) (G : GoodS cfg ca lvl X) {s : Stmt} : JS X ca ((dS cfg d bl X.env.scope s).getD badS) s := by
  cases z : dS cfg d bl X.env.scope s with
  | none => exact js_bad
  | some m => exact dS_ok D B G z
theorem dBl_ok (D : DenOk cfg ca lvl d) (B : BlOk cfg ca lvl bl) (G : GoodS cfg ca lvl X) : ∀ {ss : List Stmt}, JSs X ca (dBl cfg d bl X.env.scope ss) ss
  | [] => jss_nil
  | [s] => jss_one (dS_ok' D B G)
  | s :: s' :: ss => jss_cons (dS_ok' D B G) (dBl_ok D B G)
theorem denB_ok (D : DenOk cfg ca lvl d) : ∀ n, BlOk cfg ca lvl (denB cfg d n)
  | 0 => fun _ _ _ _ h => by cases h
  | n + 1 => fun X G ss m h => by cases h; exact dBl_ok D (denB_ok D n) G
end
/-- the body of a def -/
def denF (cfg : Cfg) (sc : Scope) (body : List Stmt) : Option SM := denB cfg (den cfg 40) 40 sc body
end QB

namespace QB
open PySem L2
/-! ### a module's defs, one behind another -/
/-- a def as the callers know it -/
def FnKn (rp : Bool) (P : Program) (w : World) (K : PySem.W.Frag) (mg : Str → Option Value) (base : Heap) (ca : Str → Addr) (lvl : Nat) (E : FnE) : Prop := ∃ f fd k, k ≤ lvl ∧ mg E.name = some (.ref f) ∧ PySem.W.keepIn K (.ref f) = true ∧
    FnR rp P w K mg base k f fd E.ps (spF K ca E.ps.length E.sem) ∧ ∀ s ∈ E.shapes, ShapeOk K ca fd E.ps s
structure ModOk (P : Program) (w : World) (K : PySem.W.Frag) (mg : Str → Option Value) (base : Heap) (ca : Str → Addr) (lvl : Nat) (cfg : Cfg) : Prop where
  nd : cfg.N.Nodup
  fns : ∀ E ∈ cfg.fns, FnKn cfg.rp P w K mg base ca lvl E
  consts : ∀ p ∈ cfg.consts, ∃ u v, mg p.1 = some u ∧ RelV v u ∧ KRep K ca p.2 v
  frees : ∀ x ∈ cfg.frees, mg x = none
section
variable {rp : Bool} {P : Program} {w : World} {K : PySem.W.Frag} {mg : Str → Option Value} {base : Heap} {ca : Str → Addr} {lvl : Nat} {cfg : Cfg} {x qual : Str} {params : Arguments} {body : List Stmt} {scope : Scope} {dvs : List V} {kws : List (Str × V)} {f : Addr} {fd : FuncData} {ps : List Str} {m : SM}
theorem FnKn.mono {E : FnE} {l l' : Nat} (h : FnKn rp P w K mg base ca l E) (hl : l ≤ l') : FnKn rp P w K mg base ca l' E := by
  obtain ⟨f, fd, k, h1, h2⟩ := h
  exact ⟨f, fd, k, Nat.le_trans h1 hl, h2⟩
theorem FnR.weak {k : Nat} {sp : Sp} (F : FnR false P w K mg base k f fd ps sp) : FnR rp P w K mg base k f fd ps sp := ⟨F.len, fun A o s H ar us vs Q E _ => F.run A o s H ar us vs Q E (fun z => by cases z)⟩
theorem FnKn.weak {E : FnE} {l l' : Nat} (h : FnKn false P w K mg base ca l E) (hl : l ≤ l') : FnKn rp P w K mg base ca l' E := by
  obtain ⟨f, fd, k, h1, h2, h3, h4, h5⟩ := h
  exact ⟨f, fd, k, Nat.le_trans h1 hl, h2, h3, h4.weak, h5⟩
theorem def_ok (F : FunD K x qual params body scope dvs kws f fd) (S : FnScope cfg.N ps scope) (M : ModOk P w K mg base ca lvl cfg) (h : denF cfg scope body = some m) :
    FnR cfg.rp P w K mg base (lvl + 1) f fd ps (spF K ca ps.length (bodyF cfg.N.length m)) := by
  refine fn_ok F S fun cdv A outer s H E hgd hr => ?_
  have G : GoodS cfg ca lvl (cxOf (L2.CX P w) P w K mg base cfg.N qual scope f cdv A outer s H E) :=
    ⟨⟨rfl, M.nd, rfl, hr, M.fns, hgd, M.consts, M.frees⟩, fun _ => rfl, passes_of rfl, S.kind⟩
  exact denB_ok (den_ok 40) 40 _ G body m h
/-- a def that calls itself: the promise of no meaning -/
theorem FnR.none {k : Nat} {sp : Sp} (h : ∀ vs H Q E, ¬ sp vs H Q E) : FnR rp P w K mg base k f fd ps sp := ⟨fun _ _ _ _ z => (h _ _ _ _ z).elim, fun A o s H ar us vs Q E _ _ _ _ _ z => (h _ _ _ _ z).elim⟩
def badF : FSem := fun _ => .bad
theorem badF_sp {n : Nat} (vs : List V) (H : Hp) (Q : VK) (E : XK) : ¬ spF K ca n badF vs H Q E := fun ⟨_, _, _, _, z⟩ => z
/-- the shapes of a call -/
theorem shape_n {n : Nat} {ks : List Str} {src : List Src} (F : FunD K x qual params body scope [] kws f fd)
    (h : ∀ (kV doc pm : Value) (an : Option Addr) (cdv ct : Value) (us ws : List Value), us.length = n → ws.length = ks.length → bindArgs (PySem.W.fnOf x qual params body scope .none kV doc pm an cdv ct) ⟨us, ks.zip ws⟩ = pure (ps.zip (pick src us ws []))) :
    ShapeOk K ca fd ps ⟨n, ks, src, []⟩ := by
  obtain ⟨oc, od, dV, kV, doc, pm, an, cdv, ct, osl, rfl, lk, hcd, hD, hK⟩ := F.ex
  rcases hD with ⟨_, rfl⟩ | ⟨e, _⟩
  · exact ⟨[], [], .nil, ⟨fun s us ws _ h1 h2 => .of_eq (h kV doc pm an cdv ct us ws h1 h2), fun r1 r2 => pick_paired r1 r2 .nil src⟩⟩
  · exact absurd rfl e
/-- the law itself: its meaning at every script -/
theorem law_sp {F : FSem} {n : Nat} (h : ∀ ns : List Int, ns.length ≤ n → ∃ e', F [.val (.rdl (ns.map .int))] = .ret (.val (.bl true)) e') (H : Hp) (a : Addr) (ns : List Int) (hl : ns.length ≤ n) (hS : SqL K H a (ns.map V.int)) :
    spF K ca 1 F [.ref a] H (fun v _ => v = .bl true) fun _ _ _ => False := by
  obtain ⟨e', he⟩ := h ns hl
  refine ⟨rfl, fun _ => False, [.val (.rdl (ns.map .int))], ⟨.cons ⟨a, _, rfl, Same.seq (fun b o q => hid_of.mpr ⟨q, fun z => z⟩) hS, intsReps ns⟩ .nil, fun s hs => ?_, fun i j o o' b q => ?_, fun b z => z.elim⟩, ?_⟩
  · rcases List.mem_cons.mp hs with rfl | hs
    · exact .inl ⟨_, rfl⟩
    · cases hs
  · cases i with
    | zero => cases q
    | succ i => simp at q
  · rw [he]
    exact fun v H' M' _ fr => fr.1
end
open PySem.Spec PyProof.Rows in
/-- the law's promise at the heap behind the top -/
theorem law_callR {rp : Bool} {P : Program} {w : World} {K : PySem.W.Frag} {mg mb : Str → Option Value} {k : Nat} {fa a : Addr} {fd : FuncData} {x : Str} {sp : Sp} {s1 : Shared} {us : List Value} {ns : List Int}
    (KX : K.In s1.heap) (g1 : s1.heap.Ns mainGlobals mg) (g2 : s1.heap.Ns builtinsNs mb) (g3 : ∀ x : Str, x ≠ "__name__" → mb x = bootBuiltins x) (g4 : s1.heap.NoLimit) (g5 : s1.gens = #[])
    (ha : s1.heap.get? a = some { cls := .type "list", data := .seq us.toArray }) (hi : IntsAre us ns) (hl : ns.length ≤ sizeLine) (hr : Room k callerA)
    (F : ∀ base : Heap, K.In base → base.Ns mainGlobals mg → FnR rp P w K mg base k fa fd [x] sp) (hbind : ∀ (s : Shared) (u : Value), BindsTo s fd ⟨[u], []⟩ [(x, u)])
    (hsp : ∀ H : Hp, Only H → SqL K H a (ns.map V.int) → sp [.ref a] H (fun v _ => v = .bl true) fun _ _ _ => False) :
    codeAny (model P w) callerA (.call (.ref fa) ⟨[.ref a], []⟩) (fun r s' => r = .ok (.ret (.bool true)) ∧ OldK s1.heap s'.heap ∧ s'.os = s1.os ∧ AllBare s'.gens) s1 := by
  have go : ∀ H : Hp, Only H → SqL K H a (ns.map V.int) → HOk P w H s1.heap → (∀ b, H b ≠ none → b = a) → (H a ≠ none → K.lookup a = none) →
      codeAny (model P w) callerA (.call (.ref fa) ⟨[.ref a], []⟩) (fun r s' => r = .ok (.ret (.bool true)) ∧ OldK s1.heap s'.heap ∧ s'.os = s1.os ∧ AllBare s'.gens) s1 := by
    intro H hO hS ok hA hK
    have atA : ∀ {b : Addr} {u : HO}, H b = some u → b = a := fun {b u} q => hA b (by rw [q]; exact fun z => by cases z)
    have noD : ∀ {b : Addr} {o : Obj} {es : Array DictEntry} {ep : Nat}, s1.heap.get? b = some o → o.data = .dict es ep → H b = none := by
      intro b o es ep h1 h2
      match q : H b with
      | none => rfl
      | some u =>
        have := atA q
        subst this
        rw [ha] at h1
        cases h1
        cases h2
    have ns' : ∀ {b : Addr} {m : Str → Option Value}, s1.heap.Ns b m → (hidT s1.heap H).Ns b m := by
      rintro b m ⟨o, es, ep, h1, h2, h3⟩
      exact ⟨o, es, ep, hidT_get h1 (noD h1 h2), h2, h3⟩
    have kb : K.In (hidT s1.heap H) := by
      intro b o h1
      refine hidT_get (KX b o h1) ?_
      match q : H b with
      | none => rfl
      | some u =>
        have := atA q
        subst this
        rw [hK (by rw [q]; exact fun z => by cases z)] at h1
        cases h1
    have md : Mod K mg (hidT s1.heap H) := by
      obtain ⟨mc, l1, l2⟩ := g4
      exact ⟨kb, ns' g1, ⟨mb, ns' g2, g3⟩, ⟨mc, ns' l1, l2⟩⟩
    have e0 : Env0 P w K mg (hidT s1.heap H) callerA [] s1 H := ⟨rfl, md, fun b o e => of_hidT e, Nat.le_of_eq (hidT_size _ _), trivial, fun b hb => (by cases hb), ok, .of_eq g5⟩
    refine codeAny_mono ((F _ kb (ns' g1)).run callerA [] s1 H ⟨[.ref a], []⟩ [.ref a] [.ref a] _ _ (fun _ => rfl) hr e0 (hbind s1 (.ref a)) (.cons rfl .nil) (hsp H hO hS)) ?_
    intro r s' h
    match r, h with
    | .error e, h =>
      obtain ⟨_, _, _, _, _, _, _, _, _, _, _, _, z⟩ := h
      exact z.elim
    | .ok .next, h => exact h.elim
    | .ok .brk, h => exact h.elim
    | .ok .cont, h => exact h.elim
    | .ok (.ret u), h =>
      obtain ⟨v, H', os, bare, un, ok', r', q⟩ := h
      cases (show v = .bl true from q)
      cases (show u = Value.bool true from r')
      refine ⟨rfl, OldK.of_keep fun b o e => ?_, os, bare⟩
      match q : H b with
      | none => exact un.keep b o e q (fun z => by cases z) (by simp)
      | some u =>
        rcases hO b with z | ⟨ob, xs, z⟩
        · rw [q] at z; cases z
        · obtain ⟨w1, _⟩ := ok b _ z
          obtain ⟨w2, _⟩ := ok' b _ (un.frzs b ob _ z)
          rw [e] at w1
          cases w1
          exact w2
  have rv := vals_ints hi
  match hk : K.lookup a with
  | some o =>
    have e := KX a o hk
    rw [ha] at e
    cases e
    exact go (fun _ => none) (fun _ => .inl rfl) (.inr ⟨_, us.toArray, _, hk, rfl, rfl, rfl, by rw [List.size_toArray, hi.length]; exact hl, by simpa using rv⟩) (fun b u z => by cases z) (fun b z => absurd rfl z) fun z => absurd rfl z
  | none =>
    generalize hob : ({ cls := .type "list", data := .seq us.toArray } : Obj) = ob at ha
    have at1 : ∀ {b : Addr}, b = a → (fun b => if b = a then some (HO.frz ob (.lst (ns.map V.int))) else none) b = some (.frz ob (.lst (ns.map V.int))) := fun z => if_pos z
    have at2 : ∀ {b : Addr}, b ≠ a → (fun b => if b = a then some (HO.frz ob (.lst (ns.map V.int))) else none) b = none := fun z => if_neg z
    refine go (fun b => if b = a then some (.frz ob (.lst (ns.map V.int))) else none) (fun b => ?_) (.inl (.inr ⟨ob, at1 rfl⟩)) (fun b u z => ?_) (fun b z => ?_) fun _ => hk
    · by_cases h : b = a
      · exact .inr ⟨_, _, at1 h⟩
      · exact .inl (at2 h)
    · by_cases h : b = a
      · cases (at1 h).symm.trans z
        subst h
        subst hob
        exact ⟨ha, by rw [List.length_map]; exact hl, us, _, rv, ha⟩
      · cases (at2 h).symm.trans z
    · by_cases h : b = a
      · exact h
      · exact absurd (at2 h) z
open PySem.Spec PyProof.Rows in
theorem walk_ofW {l : PySem.W.OpenLaw} {n k : Nat} {q : Program} {loose : List Str} {XP : (Str → Option Value) → Heap → Prop} {YP : World → Heap → Prop} {d : DefRec} {x : Str}
    (hn : l.most = some n) (hn2 : n ≤ sizeLine) (hdf : d.params.defaults = []) (hr : Room k callerA)
    (F : ∀ (w : World) (mg : Str → Option Value) (fa : Addr) (h : Heap), YP w h → h.Ns mainGlobals mg → mg d.name = some (.ref fa) →
      ∃ (K : PySem.W.Frag) (fd : FuncData) (sp : Sp), K.In h ∧ (∀ (s : Shared) (u : Value), BindsTo s fd ⟨[u], []⟩ [(x, u)]) ∧
        (∀ (H : Hp) (a : Addr) (ns : List Int), ns.length ≤ n → Only H → SqL K H a (ns.map V.int) → sp [.ref a] H (fun v _ => v = .bl true) fun _ _ _ => False) ∧
        ∀ base : Heap, K.In base → base.Ns mainGlobals mg → FnR true l.prog w K mg base k fa fd [x] sp) :
    PySem.W.WalkO q loose XP YP l.row.toRowW d [] (fun f vs => PySem.call f vs) := by
  refine Att.attach_call hn hdf fun w s₀ s₁ mg mb fa o pm cd doc a vs ns G Y ho hd hcd hmg hobj hints hlen hg => ?_
  obtain ⟨K, fd, sp, KX, hb, hsp, hF⟩ := F w mg fa _ Y G.T.g hmg
  exact law_callR KX G.T.g G.T.b G.T.builtins G.T.nolimit hg hobj hints (Nat.le_trans hlen hn2) hr hF hb (fun H hO hS => hsp H a ns hlen hO hS)
end QB

namespace QB
open PySem L2
/-! ### running a meaning on a written environment: one equation a word -/
section
variable {α β : Type} {e : En}
@[simp] theorem ret_app {a : α} : EM.ret a e = .ok a e := rfl
@[simp] theorem bad_app : (EM.bad : EM α) e = .bad := rfl
@[simp ↓] theorem ite_app {p : Prop} [Decidable p] {m n : EM α} : (if p then m else n) e = if p then m e else n e := by split <;> rfl
@[simp ↓] theorem ites_app {p : Prop} [Decidable p] {m n : SM} : (if p then m else n) e = if p then m e else n e := by split <;> rfl
@[simp] theorem getM_app {i : Nat} : getM i e = match e[i]? with
  | some (some (.val p)) => .ok (.val p) e
  | some (some (.own o)) => .ok (.val o.pv) (e.set i (some (.val o.pv)))
  | _ => .bad := rfl
@[simp] theorem slotM_app {i : Nat} : slotM i e = match e[i]? with
  | some (some _) => .ok (.slot i) e
  | _ => .bad := rfl
@[simp ↓] theorem opdM_app {m : EM RV} : opdM m e = match m e with
  | .ok r e' => .ok (.pv r.pv) e'
  | .exc x e' => .exc x e'
  | .bad => .bad := by
  unfold opdM EM.bind
  cases m e <;> rfl
@[simp] theorem opdsNil_app : opdsNil e = .ok [] e := rfl
@[simp] theorem valsNil_app : valsNil e = .ok [] e := rfl
@[simp ↓] theorem opdsCons_app {m : EM Opd} {ms : EM (List Opd)} : opdsCons m ms e = match m e with
  | .ok o e1 => (match ms e1 with
    | .ok os e2 => .ok (o :: os) e2
    | .exc x e2 => .exc x e2
    | .bad => .bad)
  | .exc x e1 => .exc x e1
  | .bad => .bad := by
  unfold opdsCons EM.bind
  cases m e with
  | ok a e1 => dsimp only; cases ms e1 <;> rfl
  | _ => rfl
@[simp ↓] theorem valsCons_app {m : EM RV} {ms : EM (List PV)} : valsCons m ms e = match m e with
  | .ok o e1 => (match ms e1 with
    | .ok os e2 => .ok (o.pv :: os) e2
    | .exc x e2 => .exc x e2
    | .bad => .bad)
  | .exc x e1 => .exc x e1
  | .bad => .bad := by
  unfold valsCons EM.bind
  cases m e with
  | ok a e1 => dsimp only; cases ms e1 <;> rfl
  | _ => rfl
@[simp ↓] theorem tupM_app {m : EM (List PV)} : tupM m e = match m e with
  | .ok ps e1 => if szOk ps.length then .ok (.val (.tup ps)) e1 else .bad
  | .exc x e1 => .exc x e1
  | .bad => .bad := by
  unfold tupM EM.bind
  cases m e with
  | ok ps e1 => dsimp only; split <;> rfl
  | _ => rfl
@[simp ↓] theorem lstM_app {m : EM (List PV)} : lstM m e = match m e with
  | .ok ps e1 => if szOk ps.length then .ok (.own (.lst ps)) e1 else .bad
  | .exc x e1 => .exc x e1
  | .bad => .bad := by
  unfold lstM EM.bind
  cases m e with
  | ok ps e1 => dsimp only; split <;> rfl
  | _ => rfl
@[simp ↓] theorem two_app {m n : EM Opd} {f : PV → PV → EM α} : two m n f e = match m e with
  | .ok a e1 => (match n e1 with
    | .ok b e2 => (match a.look e2 with
      | some x => (match b.look e2 with
        | some y => f x y e2
        | none => .bad)
      | none => .bad)
    | .exc x e2 => .exc x e2
    | .bad => .bad)
  | .exc x e1 => .exc x e1
  | .bad => .bad := by
  unfold two EM.bind lookM
  cases m e with
  | ok a e1 =>
    dsimp only
    cases n e1 with
    | ok b e2 =>
      dsimp only
      cases a.look e2 with
      | none => rfl
      | some x => dsimp only; cases b.look e2 <;> rfl
    | _ => rfl
  | _ => rfl
@[simp ↓] theorem one_app {m : EM Opd} {f : PV → EM α} : one m f e = match m e with
  | .ok a e1 => (match a.look e1 with
    | some x => f x e1
    | none => .bad)
  | .exc x e1 => .exc x e1
  | .bad => .bad := by
  unfold one EM.bind lookM
  cases m e with
  | ok a e1 => dsimp only; cases a.look e1 <;> rfl
  | _ => rfl
@[simp ↓] theorem boolM_app {m : EM RV} : boolM m e = match m e with
  | .ok r e1 => (match r.pv with
    | .bl b => .ok b e1
    | _ => .bad)
  | .exc x e1 => .exc x e1
  | .bad => .bad := by
  unfold boolM EM.bind
  cases m e with
  | ok r e1 => dsimp only; cases r.pv <;> rfl
  | _ => rfl
@[simp ↓] theorem truM_app {m : EM Opd} : truM m e = match m e with
  | .ok a e1 => (match a.look e1 with
    | some x => (match truP x with
      | some b => .ok b e1
      | none => .bad)
    | none => .bad)
  | .exc x e1 => .exc x e1
  | .bad => .bad := by
  unfold truM
  rw [one_app]
  cases m e with
  | ok a e1 =>
    dsimp only
    cases a.look e1 with
    | none => rfl
    | some x => dsimp only; cases truP x <;> rfl
  | _ => rfl
@[simp ↓] theorem andT_app {a b : EM Bool} : andT a b e = match a e with
  | .ok c e1 => if c then b e1 else .ok false e1
  | .exc x e1 => .exc x e1
  | .bad => .bad := by
  unfold andT EM.bind
  cases a e with
  | ok c e1 => cases c <;> rfl
  | _ => rfl
@[simp ↓] theorem orT_app {a b : EM Bool} : orT a b e = match a e with
  | .ok c e1 => if c then .ok true e1 else b e1
  | .exc x e1 => .exc x e1
  | .bad => .bad := by
  unfold orT EM.bind
  cases a e with
  | ok c e1 => cases c <;> rfl
  | _ => rfl
@[simp ↓] theorem notT_app {a : EM Bool} : notT a e = match a e with
  | .ok c e1 => .ok (!c) e1
  | .exc x e1 => .exc x e1
  | .bad => .bad := by
  unfold notT EM.bind
  cases a e <;> rfl
@[simp ↓] theorem andV_app {a b : EM RV} : andV a b e = match boolM a e with
  | .ok c e1 => if c then b e1 else .ok (.val (.bl false)) e1
  | .exc x e1 => .exc x e1
  | .bad => .bad := by
  unfold andV EM.bind
  cases boolM a e with
  | ok c e1 => cases c <;> rfl
  | _ => rfl
@[simp ↓] theorem orV_app {a b : EM RV} : orV a b e = match boolM a e with
  | .ok c e1 => if c then .ok (.val (.bl true)) e1 else b e1
  | .exc x e1 => .exc x e1
  | .bad => .bad := by
  unfold orV EM.bind
  cases boolM a e with
  | ok c e1 => cases c <;> rfl
  | _ => rfl
@[simp ↓] theorem notV_app {m : EM Opd} : notV m e = match truM m e with
  | .ok c e1 => .ok (.val (.bl (!c))) e1
  | .exc x e1 => .exc x e1
  | .bad => .bad := by
  unfold notV EM.bind
  cases truM m e <;> rfl
@[simp ↓] theorem iteM_app {t : EM Bool} {a b : EM α} : iteM t a b e = match t e with
  | .ok c e1 => if c then a e1 else b e1
  | .exc x e1 => .exc x e1
  | .bad => .bad := by
  unfold iteM EM.bind
  cases t e with
  | ok c e1 => cases c <;> rfl
  | _ => rfl
@[simp ↓] theorem ixM_app {m n : EM Opd} : ixM m n e = two m n (fun x y => retP (ixP x y)) e := rfl
@[simp] theorem retP_app {o : Option PV} : retP o e = match o with
  | some p => .ok (.val p) e
  | none => .bad := by cases o <;> rfl
@[simp] theorem retO_app {o : Option Bool} : retO o e = match o with
  | some p => .ok (.val (.bl p)) e
  | none => .bad := by cases o <;> rfl
@[simp] theorem retB_app {b : Bool} : retB b e = .ok (.val (.bl b)) e := rfl
@[simp] theorem optM_app {o : Option α} : EM.opt o e = match o with
  | some p => .ok p e
  | none => .bad := by cases o <;> rfl
@[simp ↓] theorem bltM_app {ms : EM (List Opd)} {f : List PV → EM RV} : bltM ms f e = match ms e with
  | .ok os e1 => (match looks e1 os with
    | some ps => f ps e1
    | none => .bad)
  | .exc x e1 => .exc x e1
  | .bad => .bad := by
  unfold bltM EM.bind looksM
  cases ms e with
  | ok os e1 => dsimp only; cases looks e1 os <;> rfl
  | _ => rfl
@[simp ↓] theorem callM_app {F : FSem} {np : Nat} {s : Shape} {ms mk : EM (List Opd)} : callM F np s ms mk e = match ms e with
  | .ok os e1 => (match mk e1 with
    | .ok zs e2 => callK F np s os zs e2
    | .exc x e2 => .exc x e2
    | .bad => .bad)
  | .exc x e1 => .exc x e1
  | .bad => .bad := by
  unfold callM EM.bind
  cases ms e with
  | ok a e1 => dsimp only; cases mk e1 <;> rfl
  | _ => rfl
@[simp] theorem callK_app {F : FSem} {np : Nat} {s : Shape} {os zs : List Opd} : callK F np s os zs e = if decide (os.length = s.n ∧ zs.length = s.ks.length ∧ (pick s.src os zs (s.dfl.map .pv)).length = np) then callE F (pick s.src os zs (s.dfl.map .pv)) e else .bad := by
  unfold callK
  split <;> rfl
@[simp] theorem callE_app {F : FSem} {os : List Opd} : callE F os e = match resolve e 0 os with
  | some (ss, bs) => (match F ss with
    | .ret r e' => (match giveBack bs e' e with
      | some e2 => .ok r e2
      | none => .bad)
    | .exc x e' => (match giveBack bs e' e with
      | some e2 => .exc x e2
      | none => .bad)
    | .bad => .bad)
  | none => .bad := rfl
@[simp] theorem chgM_app {i : Nat} {f : List PV → Option (List PV × α)} : chgM i f e = match lstAt i e with
  | some (s, xs) => (match f xs with
    | some (ys, a) => .ok a (e.set i (some (s.put (.lst ys))))
    | none => .bad)
  | none => .bad := rfl
@[simp ↓] theorem appM_app {i : Nat} {m : EM RV} : appM i m e = match e[i]? with
  | some (some _) => (match lstAt i e with
    | some _ => (match m e with
      | .ok r e1 => chgM i (appX r.pv) e1
      | .exc x e1 => .exc x e1
      | .bad => .bad)
    | none => .bad)
  | _ => .bad := by
  unfold appM EM.bind slotM isLst
  cases e[i]? with
  | none => rfl
  | some o =>
    cases o with
    | none => rfl
    | some s =>
      dsimp only
      cases lstAt i e with
      | none => rfl
      | some _ => dsimp only; cases m e <;> rfl
@[simp ↓] theorem extM_app {i : Nat} {m : EM Opd} : extM i m e = match e[i]? with
  | some (some _) => (match lstAt i e with
    | some _ => (match m e with
      | .ok a e1 => (match a.look e1 with
        | some x => lstM' (fun ps => chgM i (extX ps)) x e1
        | none => .bad)
      | .exc x e1 => .exc x e1
      | .bad => .bad)
    | none => .bad)
  | _ => .bad := by
  unfold extM EM.bind slotM isLst lookM
  cases e[i]? with
  | none => rfl
  | some o =>
    cases o with
    | none => rfl
    | some s =>
      dsimp only
      cases lstAt i e with
      | none => rfl
      | some _ =>
        dsimp only
        cases m e with
        | ok a e1 => dsimp only; cases a.look e1 <;> rfl
        | _ => rfl
/-! statements -/
@[simp] theorem skipM_app : skipM e = .nx e := rfl
@[simp ↓] theorem seqM_app {a b : SM} : seqM a b e = match a e with
  | .nx e' => b e'
  | r => r := rfl
@[simp ↓] theorem thenS_app {m : EM α} {f : α → SM} : thenS m f e = match m e with
  | .ok a e' => f a e'
  | .exc x e' => .xc x e'
  | .bad => .bad := rfl
@[simp ↓] theorem retM_app {m : EM RV} : retM m e = match m e with
  | .ok a e' => .rt a e'
  | .exc x e' => .xc x e'
  | .bad => .bad := by
  unfold retM thenS
  cases m e <;> rfl
@[simp ↓] theorem exprM_app {m : EM RV} : exprM m e = match m e with
  | .ok _ e' => .nx e'
  | .exc x e' => .xc x e'
  | .bad => .bad := by
  unfold exprM thenS
  cases m e <;> rfl
@[simp ↓] theorem asgM_app {i : Nat} {m : EM RV} : asgM i m e = match m e with
  | .ok r e' => optS (setSl i r.slot e')
  | .exc x e' => .xc x e'
  | .bad => .bad := by
  unfold asgM thenS
  cases m e <;> rfl
@[simp ↓] theorem asg2M_app {i j : Nat} {m : EM (List PV)} : asg2M i j m e = match m e with
  | .ok [p, q] e' => (match setSl i (.val p) e' with
    | some e1 => optS (setSl j (.val q) e1)
    | none => .bad)
  | .ok _ e' => .bad
  | .exc x e' => .xc x e'
  | .bad => .bad := by
  unfold asg2M thenS
  cases m e with
  | ok ps e' =>
    match ps with
    | [] => rfl
    | [_] => rfl
    | [_, _] => rfl
    | _ :: _ :: _ :: _ => rfl
  | _ => rfl
@[simp ↓] theorem unpM_app {b : Bnd} {m : EM RV} : unpM b m e = match m e with
  | .ok r e' => optS (b r.pv e')
  | .exc x e' => .xc x e'
  | .bad => .bad := by
  unfold unpM thenS
  cases m e <;> rfl
@[simp ↓] theorem setIxM_app {i : Nat} {mk : EM Opd} {mv : EM RV} : setIxM i mk mv e = match mv e with
  | .ok r e1 => (match e1[i]? with
    | some (some _) => (match mk e1 with
      | .ok o e2 => (match o.look e2 with
        | some (.int k) => (match chgM i (putIx k r.pv) e2 with
          | .ok _ e3 => .nx e3
          | .exc x e3 => .xc x e3
          | .bad => .bad)
        | _ => .bad)
      | .exc x e2 => .xc x e2
      | .bad => .bad)
    | _ => .bad)
  | .exc x e1 => .xc x e1
  | .bad => .bad := by
  unfold setIxM thenS setIxE EM.bind slotM lookM
  cases mv e with
  | ok r e1 =>
    dsimp only
    cases e1[i]? with
    | none => rfl
    | some o =>
      cases o with
      | none => rfl
      | some s =>
        dsimp only
        cases mk e1 with
        | ok o e2 =>
          dsimp only
          cases o.look e2 with
          | none => rfl
          | some p =>
            cases p with
            | int k => dsimp only [intM]; cases chgM i (putIx k r.pv) e2 <;> rfl
            | _ => rfl
        | _ => rfl
  | _ => rfl
@[simp ↓] theorem forI_app {b : Bnd} {m : EM (List PV)} {body : SM} : forI b m body e = match m e with
  | .ok xs e' => loopM b body xs e'
  | .exc x e' => .xc x e'
  | .bad => .bad := by
  unfold forI thenS
  cases m e <;> rfl
@[simp] theorem badS_app : badS e = .bad := rfl
@[simp ↓] theorem itV_app {m : EM RV} : itV m e = match m e with
  | .ok r e' => (match itemsOf r.pv with
    | some ps => .ok ps e'
    | none => .bad)
  | .exc x e' => .exc x e'
  | .bad => .bad := by
  unfold itV EM.bind
  cases m e with
  | ok r e' => first | rfl | (dsimp only; cases itemsOf r.pv <;> rfl)
  | _ => rfl
@[simp ↓] theorem itA_app {f : List PV → Option (List PV)} {ms : EM (List Opd)} : itA f ms e = match ms e with
  | .ok os e1 => (match looks e1 os with
    | some ps => (match f ps with
      | some xs => .ok xs e1
      | none => .bad)
    | none => .bad)
  | .exc x e1 => .exc x e1
  | .bad => .bad := by
  unfold itA EM.bind looksM
  cases ms e with
  | ok os e1 =>
    dsimp only
    cases looks e1 os with
    | none => rfl
    | some ps => dsimp only; cases f ps <;> rfl
  | _ => rfl
@[simp ↓] theorem isiM_app {m : EM Opd} {ts : List String} : isiM m ts e = match m e with
  | .ok a e1 => (match a.look e1 with
    | some x => (match isiP ts x with
      | some b => .ok (.val (.bl b)) e1
      | none => .bad)
    | none => .bad)
  | .exc x e1 => .exc x e1
  | .bad => .bad := by
  unfold isiM
  rw [one_app]
  cases m e with
  | ok a e1 =>
    dsimp only
    cases a.look e1 with
    | none => rfl
    | some x => dsimp only; cases isiP ts x <;> rfl
  | _ => rfl
@[simp ↓] theorem strM1_app {mo m : EM Opd} {f : Str → PV → EM RV} : strM1 mo m f e = match mo e with
  | .ok o e1 => (match o.look e1 with
    | some (.str a) => (match m e1 with
      | .ok b e2 => (match b.look e2 with
        | some y => f a y e2
        | none => .bad)
      | .exc x e2 => .exc x e2
      | .bad => .bad)
    | _ => .bad)
  | .exc x e1 => .exc x e1
  | .bad => .bad := by
  unfold strM1 EM.bind lookM
  cases mo e with
  | ok o e1 =>
    dsimp only
    cases o.look e1 with
    | none => rfl
    | some p =>
      cases p with
      | str a =>
        dsimp only
        cases m e1 with
        | ok b e2 => dsimp only; cases b.look e2 <;> rfl
        | _ => rfl
      | _ => rfl
  | _ => rfl
@[simp ↓] theorem fjM_nil {acc : Str} : fjM [] acc e = .ok (.val (.str acc)) e := rfl
@[simp ↓] theorem fjM_cons {m : EM RV} {ms : List (EM RV)} {acc : Str} : fjM (m :: ms) acc e = match m e with
  | .ok r e1 => (match r.pv with
    | .str y => if szOk (acc ++ y).length then fjM ms (acc ++ y) e1 else .bad
    | _ => .bad)
  | .exc x e1 => .exc x e1
  | .bad => .bad := by
  rw [show fjM (m :: ms) acc = m.bind (fun r => match r.pv with
    | .str y => if szOk (acc ++ y).length then fjM ms (acc ++ y) else EM.bad
    | _ => EM.bad) from rfl]
  unfold EM.bind
  cases m e with
  | ok r e1 =>
    dsimp only
    cases r.pv with
    | str y => dsimp only; split <;> rfl
    | _ => rfl
  | _ => rfl
@[simp ↓] theorem lcM_app {m : EM (List PV)} {b : Bnd} {tt : EM Bool} {vs : List Nat} {inner : EM (List PV)} : lcM m b tt vs inner e = match m e with
  | .ok xs e1 => (if cleanE e1 vs then (match lcLoop (lcTurn b tt vs inner) xs (wipeE e1 vs) with
    | .ok rs e2 => if szOk rs.length then .ok (.own (.lst rs)) (restE e2 e1 vs) else .bad
    | _ => .bad) else .bad)
  | .exc x e1 => .exc x e1
  | .bad => .bad := rfl
@[simp ↓] theorem lcTurn_app {b : Bnd} {tt : EM Bool} {vs : List Nat} {inner : EM (List PV)} {p : PV} : lcTurn b tt vs inner p e = match b p e with
  | none => .bad
  | some e1 => (match tt e1 with
    | .ok true e2 => (match inner e2 with
      | .ok rs e3 => .ok rs (wipeE e3 vs)
      | _ => .bad)
    | .ok false e2 => .ok [] (wipeE e2 vs)
    | _ => .bad) := rfl
@[simp ↓] theorem eltM_app {te : EM RV} : eltM te e = match te e with
  | .ok r e' => .ok [r.pv] e'
  | _ => .bad := rfl
@[simp ↓] theorem lcIn_app {m : EM (List PV)} {b : Bnd} {tt : EM Bool} {vs : List Nat} {inner : EM (List PV)} : lcIn m b tt vs inner e = match m e with
  | .ok xs e' => lcLoop (lcTurn b tt vs inner) xs (wipeE e' vs)
  | _ => .bad := rfl
@[simp] theorem lcLoop_nil {turn : PV → EM (List PV)} : lcLoop turn [] e = .ok [] e := rfl
theorem lcLoop_cons' {turn : PV → EM (List PV)} {p : PV} {ps : List PV} : lcLoop turn (p :: ps) e = match turn p e with
  | .ok rs e1 => (match lcLoop turn ps e1 with
    | .ok ss e2 => .ok (rs ++ ss) e2
    | _ => .bad)
  | _ => .bad := rfl
@[simp] theorem wipeE_nil : wipeE e [] = e := rfl
@[simp] theorem wipeE_cons {v : Nat} {vs : List Nat} : wipeE e (v :: vs) = (wipeE e vs).set v none := rfl
@[simp] theorem restE_nil {e1 : En} : restE e e1 [] = e := rfl
@[simp] theorem restE_cons {e1 : En} {v : Nat} {vs : List Nat} : restE e e1 (v :: vs) = (restE e e1 vs).set v (e1.getD v none) := rfl
@[simp] theorem cleanE_app {vs : List Nat} : cleanE e vs = vs.all fun v => plainO (e.getD v none) := rfl
@[simp] theorem plainO_none : plainO none = true := rfl
@[simp] theorem plainO_val {p : PV} : plainO (some (.val p)) = true := rfl
end
/-! values -/
@[simp] theorem pv_val {p : PV} : (RV.val p).pv = p := rfl
@[simp] theorem pv_own {o : MO} : (RV.own o).pv = o.pv := rfl
@[simp] theorem mo_lst {xs : List PV} : (MO.lst xs).pv = .lst xs := rfl
@[simp] theorem mo_ins {c : Str} {ks : List Str} {xs : List PV} : (MO.ins c ks xs).pv = .ins c ks xs := rfl
@[simp] theorem slot_val {p : PV} : (RV.val p).slot = .val p := rfl
@[simp] theorem slot_own {o : MO} : (RV.own o).slot = .own o := rfl
@[simp] theorem spv_val {p : PV} : (Slot.val p).pv = p := rfl
@[simp] theorem spv_own {o : MO} : (Slot.own o).pv = o.pv := rfl
@[simp] theorem spv_par {o : MO} : (Slot.par o).pv = o.pv := rfl
@[simp] theorem look_pv {e : En} {p : PV} : (Opd.pv p).look e = some p := rfl
@[simp] theorem look_slot {e : En} {i : Nat} : (Opd.slot i).look e = match e[i]? with
    | some (some s) => some s.pv
    | _ => none := rfl
@[simp] theorem looks_nil {e : En} : looks e [] = some [] := rfl
@[simp] theorem looks_cons {e : En} {o : Opd} {os : List Opd} : looks e (o :: os) = match o.look e with
  | some p => (match looks e os with
    | some ps => some (p :: ps)
    | none => none)
  | none => none := by
  show (match o.look e, looks e os with | some p, some ps => some (p :: ps) | _, _ => none) = _
  cases o.look e <;> cases looks e os <;> rfl
@[simp] theorem lstAt_app {e : En} {i : Nat} : lstAt i e = match e[i]? with
  | some (some s) => (match s.mo with
    | some (.lst xs) => some (s, xs)
    | _ => none)
  | _ => none := rfl
@[simp] theorem mo_own {o : MO} : (Slot.own o).mo = some o := rfl
@[simp] theorem mo_par {o : MO} : (Slot.par o).mo = some o := rfl
@[simp] theorem put_own {o o' : MO} : (Slot.own o).put o' = .own o' := rfl
@[simp] theorem put_par {o o' : MO} : (Slot.par o).put o' = .par o' := rfl
@[simp] theorem setSl_app {i : Nat} {s : Slot} {e : En} : setSl i s e = match e[i]? with
  | some o => if pinO o then none else some (e.set i (some s))
  | none => none := rfl
@[simp] theorem pinO_none : pinO none = false := rfl
@[simp] theorem pinO_val {p : PV} : pinO (some (.val p)) = false := rfl
@[simp] theorem pinO_own {o : MO} : pinO (some (.own o)) = false := rfl
@[simp] theorem optS_some {e : En} : optS (some e) = .nx e := rfl
@[simp] theorem optS_none : optS none = .bad := rfl
@[simp] theorem res_nil {e : En} {k : Nat} : resolve e k [] = some ([], []) := rfl
@[simp] theorem res_pv {e : En} {k : Nat} {p : PV} {os : List Opd} : resolve e k (.pv p :: os) = match resolve e (k + 1) os with
    | some (ss, bs) => some (.val p :: ss, bs)
    | none => none := rfl
@[simp] theorem res_slot {e : En} {k i : Nat} {os : List Opd} : resolve e k (.slot i :: os) = match e[i]?, resolve e (k + 1) os with
    | some (some (.val p)), some (ss, bs) => some (.val p :: ss, bs)
    | some (some (.own o)), some (ss, bs) => some (.par o :: ss, (k, i) :: bs)
    | some (some (.par o)), some (ss, bs) => some (.par o :: ss, (k, i) :: bs)
    | _, _ => none := rfl
@[simp] theorem gb_nil {e' e : En} : giveBack [] e' e = some e := rfl
@[simp] theorem gb_one {e' e : En} {k i : Nat} : giveBack [(k, i)] e' e = match e'[k]?, e[i]? with
    | some (some (.par o)), some (some s) => some (e.set i (some (s.put o)))
    | _, _ => none := rfl
@[simp] theorem bndNm_app {i : Nat} {p : PV} {e : En} : bndNm i p e = setSl i (.val p) e := rfl
/-! operators on whole numbers -/
section
variable {i j : Int} {e : En}
@[simp] theorem c_lt_i : opC .Lt (.int i) (.int j) e = .ok (.val (.bl (decide (i < j)))) e := rfl
@[simp] theorem c_le_i : opC .LtE (.int i) (.int j) e = .ok (.val (.bl (decide (i ≤ j)))) e := rfl
@[simp] theorem c_gt_i : opC .Gt (.int i) (.int j) e = .ok (.val (.bl (decide (j < i)))) e := rfl
@[simp] theorem c_ge_i : opC .GtE (.int i) (.int j) e = .ok (.val (.bl (decide (j ≤ i)))) e := rfl
theorem eqP_int : eqP (.int i) (.int j) = some (i == j) := by
  simp [eqP, PV.data, shp, SeqAt.shaped, PyData.canLay0, PyData.depth, PyData.eqv]
@[simp] theorem c_eq_i : opC .Eq (.int i) (.int j) e = .ok (.val (.bl (i == j))) e := by
  show ((EM.opt (eqP (.int i) (.int j))).bind retB) e = _
  rw [eqP_int]; rfl
@[simp] theorem c_ne_i : opC .NotEq (.int i) (.int j) e = .ok (.val (.bl (!(i == j)))) e := by
  show ((EM.opt (eqP (.int i) (.int j))).bind fun b => retB (!b)) e = _
  rw [eqP_int]; rfl
theorem opEq_app {x y : PV} : opC .Eq x y e = match eqP x y with
  | some b => .ok (.val (.bl b)) e
  | none => .bad := by
  show ((EM.opt (eqP x y)).bind retB) e = _
  cases eqP x y <;> rfl
theorem opNe_app {x y : PV} : opC .NotEq x y e = match eqP x y with
  | some b => .ok (.val (.bl (!b))) e
  | none => .bad := by
  show ((EM.opt (eqP x y)).bind fun b => retB (!b)) e = _
  cases eqP x y <;> rfl
theorem eqP_str {a b : Str} (ha : PyData.strOk a = true) (hb : PyData.strOk b = true) : eqP (.str a) (.str b) = some (a == b) := by
  simp [eqP, PV.data, shp, SeqAt.shaped, PyData.canLay0, PyData.depth, PyData.eqv, *]
theorem eqP_non : eqP .non .non = some true := by
  simp [eqP, PV.data, shp, SeqAt.shaped, PyData.canLay0, PyData.depth, PyData.eqv, *]
theorem eqP_non_str {b : Str} (hb : PyData.strOk b = true) : eqP .non (.str b) = some false := by
  simp [eqP, PV.data, shp, SeqAt.shaped, PyData.canLay0, PyData.depth, PyData.eqv, *]
theorem eqP_str_non {b : Str} (hb : PyData.strOk b = true) : eqP (.str b) .non = some false := by
  simp [eqP, PV.data, shp, SeqAt.shaped, PyData.canLay0, PyData.depth, PyData.eqv, *]
@[simp] theorem b_add_i : opB .Add (.int i) (.int j) e = .ok (.val (.int (i + j))) e := rfl
@[simp] theorem b_sub_i : opB .Sub (.int i) (.int j) e = .ok (.val (.int (i - j))) e := rfl
@[simp] theorem b_mul_i : opB .Mult (.int i) (.int j) e = if mulOk i j then .ok (.val (.int (i * j))) e else .bad := by
  show (if mulOk i j = true then EM.ret (RV.val (PV.int (i * j))) else EM.bad) e = _
  split <;> rfl
@[simp] theorem b_mod_i : opB .Mod (.int i) (.int j) e = if 0 < j then .ok (.val (.int (i % j))) e else .bad := by
  show (if decide (0 < j) = true then EM.ret (RV.val (PV.int (i % j))) else EM.bad) e = _
  by_cases h : 0 < j <;> simp [h]
@[simp] theorem b_div_i : opB .FloorDiv (.int i) (.int j) e = if 0 < j ∧ j < 1073741824 then .ok (.val (.int (i / j))) e else .bad := by
  show (if decide (0 < j ∧ j < 1073741824) = true then EM.ret (RV.val (PV.int (i / j))) else EM.bad) e = _
  by_cases h : 0 < j ∧ j < 1073741824 <;> simp [h]
@[simp] theorem b_pow_i : opB .Pow (.int i) (.int j) e = if 0 ≤ j ∧ j ≤ 1000000 ∧ i.natAbs < 2 ^ 64 then .ok (.val (.int (i ^ j.toNat))) e else .bad := by
  show (if decide (0 ≤ j ∧ j ≤ 1000000 ∧ i.natAbs < 2 ^ 64) = true then EM.ret (RV.val (PV.int (i ^ j.toNat))) else EM.bad) e = _
  by_cases h : 0 ≤ j ∧ j ≤ 1000000 ∧ i.natAbs < 2 ^ 64
  · rw [if_pos (decide_eq_true h), if_pos h]; rfl
  · rw [if_neg (by simpa using h), if_neg h]; rfl
@[simp] theorem b_cat {xs ys : List PV} : opB .Add (.lst xs) (.lst ys) e = if szOk (xs.length + ys.length) then .ok (.own (.lst (xs ++ ys))) e else .bad := by
  show (if szOk (xs.length + ys.length) = true then EM.ret (RV.own (MO.lst (xs ++ ys))) else EM.bad) e = _
  split <;> rfl
theorem mulOk_l (h : -(2 ^ 64) < i ∧ i < 2 ^ 64) : mulOk i j = true := decide_eq_true (.inl h)
theorem mulOk_r (h : -(2 ^ 64) < j ∧ j < 2 ^ 64) : mulOk i j = true := decide_eq_true (.inr h)
@[simp] theorem ix_t0 {x : PV} {xs : List PV} : ixP (.tup (x :: xs)) (.int 0) = some x := by simp [ixP, atI, ixN]
@[simp] theorem ix_t1 {x y : PV} {xs : List PV} : ixP (.tup (x :: y :: xs)) (.int 1) = some y := by
  simp [ixP, atI, ixN]; rw [if_pos (by omega)]; rfl
@[simp] theorem ix_l0 {x : PV} {xs : List PV} : ixP (.lst (x :: xs)) (.int 0) = some x := by simp [ixP, atI, ixN]
@[simp] theorem ix_l1 {x y : PV} {xs : List PV} : ixP (.lst (x :: y :: xs)) (.int 1) = some y := by
  simp [ixP, atI, ixN]; rw [if_pos (by omega)]; rfl
@[simp] theorem ix_l2 {x y z : PV} {xs : List PV} : ixP (.lst (x :: y :: z :: xs)) (.int 2) = some z := by
  simp [ixP, atI, ixN]; rw [if_pos (by omega)]; rfl
@[simp] theorem put0 {x y : PV} {xs : List PV} : putIx 0 y (x :: xs) = some (y :: xs, ()) := by
  simp [putIx, ixN]
@[simp] theorem put1 {x x1 y : PV} {xs : List PV} : putIx 1 y (x :: x1 :: xs) = some (x :: y :: xs, ()) := by
  simp [putIx, ixN]; omega
@[simp] theorem put2 {x x1 x2 y : PV} {xs : List PV} : putIx 2 y (x :: x1 :: x2 :: xs) = some (x :: x1 :: y :: xs, ()) := by
  simp [putIx, ixN]; omega
@[simp] theorem bInt_i : bInt [.int i] e = .ok (.val (.int i)) e := rfl
@[simp] theorem bInt'_i : bInt' [.int i] e = .ok (.val (.int i)) e := rfl
@[simp] theorem bInt'_b {b : Bool} : bInt' [.bl b] e = .ok (.val (.int (if b then 1 else 0))) e := rfl
@[simp] theorem bAbs_i : bAbs [.int i] e = .ok (.val (.int (if i < 0 then -i else i))) e := rfl
@[simp] theorem bMax_i : bMax [.int i, .int j] e = .ok (.val (.int (if j > i then j else i))) e := rfl
@[simp] theorem bMin_i : bMin [.int i, .int j] e = .ok (.val (.int (if j < i then j else i))) e := rfl
@[simp] theorem bLen_l {xs : List PV} : bLen [.lst xs] e = .ok (.val (.int xs.length)) e := rfl
@[simp] theorem bLen_t {xs : List PV} : bLen [.tup xs] e = .ok (.val (.int xs.length)) e := rfl
@[simp] theorem bLen_r {xs : List PV} : bLen [.rdl xs] e = .ok (.val (.int xs.length)) e := rfl
@[simp] theorem szOk_lit {n : Nat} : szOk n = decide (n ≤ 16777216) := by unfold szOk; rw [sizeLine_eq]
end
@[simp] theorem bodyF_app {n : Nat} {m : SM} {args : List Slot} : bodyF n m args = match m (args.map some ++ List.replicate (n - args.length) none) with
  | .nx e => .ret (.val .non) e
  | .rt r e => .ret r e
  | .xc x e => .exc x e
  | _ => .bad := rfl
@[simp] theorem rng1_i {n : Int} : rng1 [.int n] = if inR n then some (rngP 0 n) else none := rfl
@[simp] theorem rng2_i {m n : Int} : rng2 [.int m, .int n] = if inR m && inR n then some (rngP m n) else none := rfl
@[simp] theorem itemsOf_l {xs : List PV} : itemsOf (.lst xs) = some xs := rfl
@[simp] theorem itemsOf_t {xs : List PV} : itemsOf (.tup xs) = some xs := rfl
@[simp] theorem itemsOf_r {xs : List PV} : itemsOf (.rdl xs) = some xs := rfl
theorem inR_of {i : Int} (h0 : -(2 ^ 62) ≤ i) (h1 : i < 2 ^ 62) : inR i = true := decide_eq_true ⟨h0, h1⟩
theorem rng_mem {lo hi : Int} {p : PV} (h : p ∈ rngP lo hi) : ∃ i : Int, lo ≤ i ∧ i < hi ∧ p = .int i := by
  unfold rngP at h
  obtain ⟨k, hk, rfl⟩ := List.mem_map.1 h
  have := List.mem_range.1 hk
  exact ⟨lo + k, by omega, by omega, rfl⟩
/-! ### loops -/
theorem loop_inv {b : Bnd} {body : SM} {I : En → Prop} : ∀ {ps : List PV} {e : En}, (∀ p ∈ ps, ∀ e, I e → ∃ e1, b p e = some e1 ∧ ∃ e2, body e1 = .nx e2 ∧ I e2) → I e → ∃ e', loopM b body ps e = .nx e' ∧ I e'
  | [], e, _, h => ⟨e, rfl, h⟩
  | p :: ps, e, ht, h => by
    obtain ⟨e1, h1, e2, h2, h3⟩ := ht p List.mem_cons_self e h
    obtain ⟨e', h4, h5⟩ := loop_inv (fun q hq => ht q (List.mem_cons_of_mem _ hq)) h3
    refine ⟨e', ?_, h5⟩
    unfold loopM
    rw [h1]
    dsimp only
    rw [h2]
    exact h4
end QB

namespace QB
open PySem L2
/-! ### answers of isinstance -/
@[simp] theorem isi_int_non : isiP ["int"] .non = some false := by show isiB "NoneType" ["int"] = some false; decide +kernel
@[simp] theorem isi_int_bl {b : Bool} : isiP ["int"] (.bl b) = some true := by show isiB "bool" ["int"] = some true; decide +kernel
@[simp] theorem isi_int_int {i : Int} : isiP ["int"] (.int i) = some true := by show isiB "int" ["int"] = some true; decide +kernel
@[simp] theorem isi_int_str {x : Str} : isiP ["int"] (.str x) = some false := by show isiB "str" ["int"] = some false; decide +kernel
@[simp] theorem isi_int_tup {xs : List PV} : isiP ["int"] (.tup xs) = some false := by show isiB "tuple" ["int"] = some false; decide +kernel
@[simp] theorem isi_int_lst {xs : List PV} : isiP ["int"] (.lst xs) = some false := by show isiB "list" ["int"] = some false; decide +kernel
@[simp] theorem isi_int_rdl {xs : List PV} : isiP ["int"] (.rdl xs) = some false := by show isiB "list" ["int"] = some false; decide +kernel
@[simp] theorem isi_int_dct {ks : List Key} {xs : List PV} : isiP ["int"] (.dct ks xs) = some false := by show isiB "dict" ["int"] = some false; decide +kernel
@[simp] theorem isi_bool_non : isiP ["bool"] .non = some false := by show isiB "NoneType" ["bool"] = some false; decide +kernel
@[simp] theorem isi_bool_bl {b : Bool} : isiP ["bool"] (.bl b) = some true := by show isiB "bool" ["bool"] = some true; decide +kernel
@[simp] theorem isi_bool_int {i : Int} : isiP ["bool"] (.int i) = some false := by show isiB "int" ["bool"] = some false; decide +kernel
@[simp] theorem isi_bool_str {x : Str} : isiP ["bool"] (.str x) = some false := by show isiB "str" ["bool"] = some false; decide +kernel
@[simp] theorem isi_bool_tup {xs : List PV} : isiP ["bool"] (.tup xs) = some false := by show isiB "tuple" ["bool"] = some false; decide +kernel
@[simp] theorem isi_bool_lst {xs : List PV} : isiP ["bool"] (.lst xs) = some false := by show isiB "list" ["bool"] = some false; decide +kernel
@[simp] theorem isi_bool_rdl {xs : List PV} : isiP ["bool"] (.rdl xs) = some false := by show isiB "list" ["bool"] = some false; decide +kernel
@[simp] theorem isi_bool_dct {ks : List Key} {xs : List PV} : isiP ["bool"] (.dct ks xs) = some false := by show isiB "dict" ["bool"] = some false; decide +kernel
@[simp] theorem isi_str_non : isiP ["str"] .non = some false := by show isiB "NoneType" ["str"] = some false; decide +kernel
@[simp] theorem isi_str_bl {b : Bool} : isiP ["str"] (.bl b) = some false := by show isiB "bool" ["str"] = some false; decide +kernel
@[simp] theorem isi_str_int {i : Int} : isiP ["str"] (.int i) = some false := by show isiB "int" ["str"] = some false; decide +kernel
@[simp] theorem isi_str_str {x : Str} : isiP ["str"] (.str x) = some true := by show isiB "str" ["str"] = some true; decide +kernel
@[simp] theorem isi_str_tup {xs : List PV} : isiP ["str"] (.tup xs) = some false := by show isiB "tuple" ["str"] = some false; decide +kernel
@[simp] theorem isi_str_lst {xs : List PV} : isiP ["str"] (.lst xs) = some false := by show isiB "list" ["str"] = some false; decide +kernel
@[simp] theorem isi_str_rdl {xs : List PV} : isiP ["str"] (.rdl xs) = some false := by show isiB "list" ["str"] = some false; decide +kernel
@[simp] theorem isi_str_dct {ks : List Key} {xs : List PV} : isiP ["str"] (.dct ks xs) = some false := by show isiB "dict" ["str"] = some false; decide +kernel
@[simp] theorem isi_tuple_non : isiP ["tuple"] .non = some false := by show isiB "NoneType" ["tuple"] = some false; decide +kernel
@[simp] theorem isi_tuple_bl {b : Bool} : isiP ["tuple"] (.bl b) = some false := by show isiB "bool" ["tuple"] = some false; decide +kernel
@[simp] theorem isi_tuple_int {i : Int} : isiP ["tuple"] (.int i) = some false := by show isiB "int" ["tuple"] = some false; decide +kernel
@[simp] theorem isi_tuple_str {x : Str} : isiP ["tuple"] (.str x) = some false := by show isiB "str" ["tuple"] = some false; decide +kernel
@[simp] theorem isi_tuple_tup {xs : List PV} : isiP ["tuple"] (.tup xs) = some true := by show isiB "tuple" ["tuple"] = some true; decide +kernel
@[simp] theorem isi_tuple_lst {xs : List PV} : isiP ["tuple"] (.lst xs) = some false := by show isiB "list" ["tuple"] = some false; decide +kernel
@[simp] theorem isi_tuple_rdl {xs : List PV} : isiP ["tuple"] (.rdl xs) = some false := by show isiB "list" ["tuple"] = some false; decide +kernel
@[simp] theorem isi_tuple_dct {ks : List Key} {xs : List PV} : isiP ["tuple"] (.dct ks xs) = some false := by show isiB "dict" ["tuple"] = some false; decide +kernel
@[simp] theorem isi_list_non : isiP ["list"] .non = some false := by show isiB "NoneType" ["list"] = some false; decide +kernel
@[simp] theorem isi_list_bl {b : Bool} : isiP ["list"] (.bl b) = some false := by show isiB "bool" ["list"] = some false; decide +kernel
@[simp] theorem isi_list_int {i : Int} : isiP ["list"] (.int i) = some false := by show isiB "int" ["list"] = some false; decide +kernel
@[simp] theorem isi_list_str {x : Str} : isiP ["list"] (.str x) = some false := by show isiB "str" ["list"] = some false; decide +kernel
@[simp] theorem isi_list_tup {xs : List PV} : isiP ["list"] (.tup xs) = some false := by show isiB "tuple" ["list"] = some false; decide +kernel
@[simp] theorem isi_list_lst {xs : List PV} : isiP ["list"] (.lst xs) = some true := by show isiB "list" ["list"] = some true; decide +kernel
@[simp] theorem isi_list_rdl {xs : List PV} : isiP ["list"] (.rdl xs) = some true := by show isiB "list" ["list"] = some true; decide +kernel
@[simp] theorem isi_list_dct {ks : List Key} {xs : List PV} : isiP ["list"] (.dct ks xs) = some false := by show isiB "dict" ["list"] = some false; decide +kernel
@[simp] theorem isi_dict_non : isiP ["dict"] .non = some false := by show isiB "NoneType" ["dict"] = some false; decide +kernel
@[simp] theorem isi_dict_bl {b : Bool} : isiP ["dict"] (.bl b) = some false := by show isiB "bool" ["dict"] = some false; decide +kernel
@[simp] theorem isi_dict_int {i : Int} : isiP ["dict"] (.int i) = some false := by show isiB "int" ["dict"] = some false; decide +kernel
@[simp] theorem isi_dict_str {x : Str} : isiP ["dict"] (.str x) = some false := by show isiB "str" ["dict"] = some false; decide +kernel
@[simp] theorem isi_dict_tup {xs : List PV} : isiP ["dict"] (.tup xs) = some false := by show isiB "tuple" ["dict"] = some false; decide +kernel
@[simp] theorem isi_dict_lst {xs : List PV} : isiP ["dict"] (.lst xs) = some false := by show isiB "list" ["dict"] = some false; decide +kernel
@[simp] theorem isi_dict_rdl {xs : List PV} : isiP ["dict"] (.rdl xs) = some false := by show isiB "list" ["dict"] = some false; decide +kernel
@[simp] theorem isi_dict_dct {ks : List Key} {xs : List PV} : isiP ["dict"] (.dct ks xs) = some true := by show isiB "dict" ["dict"] = some true; decide +kernel
@[simp] theorem isi_lt_non : isiP ["list", "tuple"] .non = some false := by show isiB "NoneType" ["list", "tuple"] = some false; decide +kernel
@[simp] theorem isi_lt_bl {b : Bool} : isiP ["list", "tuple"] (.bl b) = some false := by show isiB "bool" ["list", "tuple"] = some false; decide +kernel
@[simp] theorem isi_lt_int {i : Int} : isiP ["list", "tuple"] (.int i) = some false := by show isiB "int" ["list", "tuple"] = some false; decide +kernel
@[simp] theorem isi_lt_str {x : Str} : isiP ["list", "tuple"] (.str x) = some false := by show isiB "str" ["list", "tuple"] = some false; decide +kernel
@[simp] theorem isi_lt_tup {xs : List PV} : isiP ["list", "tuple"] (.tup xs) = some true := by show isiB "tuple" ["list", "tuple"] = some true; decide +kernel
@[simp] theorem isi_lt_lst {xs : List PV} : isiP ["list", "tuple"] (.lst xs) = some true := by show isiB "list" ["list", "tuple"] = some true; decide +kernel
@[simp] theorem isi_lt_rdl {xs : List PV} : isiP ["list", "tuple"] (.rdl xs) = some true := by show isiB "list" ["list", "tuple"] = some true; decide +kernel
@[simp] theorem isi_lt_dct {ks : List Key} {xs : List PV} : isiP ["list", "tuple"] (.dct ks xs) = some false := by show isiB "dict" ["list", "tuple"] = some false; decide +kernel
/-! ### comprehensions as plain lists -/
theorem lcLoop_inv {turn : PV → EM (List PV)} {I : En → Prop} {P : PV → Prop} : ∀ {ps : List PV} {e : En}, (∀ p ∈ ps, ∀ e, I e → ∃ rs e', turn p e = .ok rs e' ∧ I e' ∧ rs.length ≤ 1 ∧ ∀ r ∈ rs, P r) → I e →
    ∃ rs e', lcLoop turn ps e = .ok rs e' ∧ I e' ∧ rs.length ≤ ps.length ∧ ∀ r ∈ rs, P r
  | [], e, _, h => ⟨[], e, rfl, h, Nat.le_refl _, fun r hr => by cases hr⟩
  | p :: ps, e, ht, h => by
    obtain ⟨r1, e1, h1, h2, h3, h4⟩ := ht p List.mem_cons_self e h
    obtain ⟨r2, e2, k1, k2, k3, k4⟩ := lcLoop_inv (fun q hq => ht q (List.mem_cons_of_mem _ hq)) h2
    refine ⟨r1 ++ r2, e2, ?_, k2, ?_, fun r hr => ?_⟩
    · rw [lcLoop_cons', h1]
      dsimp only
      rw [k1]
    · rw [List.length_append, List.length_cons]; omega
    · rcases List.mem_append.mp hr with h | h
      · exact h4 r h
      · exact k4 r h
theorem lcLoop_map {turn : PV → EM (List PV)} {f : PV → PV} {e : En} : ∀ {ps : List PV}, (∀ p ∈ ps, turn p e = .ok [f p] e) → lcLoop turn ps e = .ok (ps.map f) e
  | [], _ => rfl
  | p :: ps, h => by
    rw [lcLoop_cons', h p List.mem_cons_self]
    dsimp only
    rw [lcLoop_map fun q hq => h q (List.mem_cons_of_mem _ hq)]
    rfl
theorem lcLoop_filter {turn : PV → EM (List PV)} {f : PV → Option PV} {e : En} : ∀ {ps : List PV}, (∀ p ∈ ps, turn p e = .ok (f p).toList e) → lcLoop turn ps e = .ok (ps.filterMap f) e
  | [], _ => rfl
  | p :: ps, h => by
    rw [lcLoop_cons', h p List.mem_cons_self]
    dsimp only
    rw [lcLoop_filter fun q hq => h q (List.mem_cons_of_mem _ hq)]
    dsimp only
    cases q : f p with
    | none => rw [List.filterMap_cons_none q]; rfl
    | some y => rw [List.filterMap_cons_some q]; rfl
theorem blsOf_map {α : Type} {g : α → Bool} : ∀ {xs : List α}, blsOf (xs.map fun x => PV.bl (g x)) = some (xs.map g)
  | [] => rfl
  | x :: xs => by
    show (blsOf (xs.map fun x => PV.bl (g x))).map (g x :: ·) = _
    rw [blsOf_map]
    rfl
@[simp] theorem blsOf_nil : blsOf [] = some [] := rfl
@[simp] theorem blsOf_cons {b : Bool} {r : List PV} : blsOf (.bl b :: r) = (blsOf r).map (b :: ·) := rfl
@[simp] theorem blsOf_map' {g : PV → Bool} {xs : List PV} : blsOf (xs.map fun x => PV.bl (g x)) = some (xs.map g) := blsOf_map
@[simp] theorem bAll_eq {e : En} {xs : List PV} : bAll [.lst xs] e = match blsOf xs with
  | some bs => .ok (.val (.bl (bs.all id))) e
  | none => .bad := by
  show ((EM.opt (blsOf xs)).bind fun bs => retB (bs.all id)) e = _
  cases blsOf xs <;> rfl
@[simp] theorem bAny_eq {e : En} {xs : List PV} : bAny [.lst xs] e = match blsOf xs with
  | some bs => .ok (.val (.bl (bs.any id))) e
  | none => .bad := by
  show ((EM.opt (blsOf xs)).bind fun bs => retB (bs.any id)) e = _
  cases blsOf xs <;> rfl
theorem bAll_app {e : En} {xs : List PV} {bs : List Bool} (h : blsOf xs = some bs) : bAll [.lst xs] e = .ok (.val (.bl (bs.all id))) e := by
  show ((EM.opt (blsOf xs)).bind fun bs => retB (bs.all id)) e = _
  rw [h]; rfl
theorem bAny_app {e : En} {xs : List PV} {bs : List Bool} (h : blsOf xs = some bs) : bAny [.lst xs] e = .ok (.val (.bl (bs.any id))) e := by
  show ((EM.opt (blsOf xs)).bind fun bs => retB (bs.any id)) e = _
  rw [h]; rfl
@[simp] theorem truP_bl {b : Bool} : truP (.bl b) = some b := rfl
@[simp] theorem bList_t {e : En} {xs : List PV} : bList [.tup xs] e = .ok (.own (.lst xs)) e := rfl
@[simp] theorem bList_l {e : En} {xs : List PV} : bList [.lst xs] e = .ok (.own (.lst xs)) e := rfl
@[simp] theorem bTuple_l {e : En} {xs : List PV} : bTuple [.lst xs] e = .ok (.val (.tup xs)) e := rfl
@[simp] theorem bTuple_t {e : En} {xs : List PV} : bTuple [.tup xs] e = .ok (.val (.tup xs)) e := rfl
/-- plain data -/
def Dt (p : PV) : Prop := ∃ d, p.data = some d
theorem Dt.ty {p : PV} (h : Dt p) : ∃ t, tyN p = some t := by
  obtain ⟨d, h⟩ := h
  cases p with
  | ins c ks xs => cases h
  | non => exact ⟨_, rfl⟩
  | bl _ => exact ⟨_, rfl⟩
  | int _ => exact ⟨_, rfl⟩
  | str _ => exact ⟨_, rfl⟩
  | tup _ => exact ⟨_, rfl⟩
  | lst _ => exact ⟨_, rfl⟩
  | rdl _ => exact ⟨_, rfl⟩
  | dct _ _ => exact ⟨_, rfl⟩
theorem datas_all : ∀ {xs : List PV}, (∀ x ∈ xs, Dt x) ↔ ∃ ds, datas xs = some ds
  | [] => ⟨fun _ => ⟨[], rfl⟩, fun _ x h => by cases h⟩
  | x :: xs => by
    constructor
    · intro h
      obtain ⟨d, hd⟩ := h x List.mem_cons_self
      obtain ⟨ds, hds⟩ := datas_all.mp fun y hy => h y (List.mem_cons_of_mem _ hy)
      exact ⟨d :: ds, by unfold datas; rw [hd, hds]⟩
    · rintro ⟨ds, h⟩ y hy
      unfold datas at h
      cases z1 : x.data with
      | none => rw [z1] at h; cases h
      | some d =>
        cases z2 : datas xs with
        | none => rw [z1, z2] at h; cases h
        | some es =>
          rcases List.mem_cons.mp hy with rfl | hy
          · exact ⟨d, z1⟩
          · exact datas_all.mpr ⟨es, z2⟩ y hy
theorem dt_tup {xs : List PV} : Dt (.tup xs) ↔ ∀ x ∈ xs, Dt x := by
  rw [datas_all]
  unfold Dt
  rw [show PV.data (.tup xs) = (datas xs).map .tuple by unfold PV.data; rfl]
  cases datas xs <;> simp
theorem dt_lst {xs : List PV} : Dt (.lst xs) ↔ ∀ x ∈ xs, Dt x := by
  rw [datas_all]
  unfold Dt
  rw [show PV.data (.lst xs) = (datas xs).map .list by unfold PV.data; rfl]
  cases datas xs <;> simp
theorem dt_int {i : Int} : Dt (.int i) := ⟨.int i, by unfold PV.data; rfl⟩
theorem dt_bl {i : Bool} : Dt (.bl i) := ⟨.bool i, by unfold PV.data; rfl⟩
theorem dt_str {i : Str} : Dt (.str i) := ⟨.str i, by unfold PV.data; rfl⟩
theorem dt_non : Dt .non := ⟨.none, by unfold PV.data; rfl⟩
/-- the text of a number -/
def numS (i : Int) : Str := Str.ofString (toString i)
@[simp] theorem fmtP_int {e : En} {i : Int} : fmtP (.int i) e = if numOk i then .ok (.val (.str (numS i))) e else .bad := by
  show (if numOk i = true then EM.ret (RV.val (PV.str (toString i))) else EM.bad) e = _
  split <;> rfl
@[simp] theorem fmtP_str {e : En} {x : Str} : fmtP (.str x) e = if szOk x.length then .ok (.val (.str x)) e else .bad := by
  show (if szOk x.length = true then EM.ret (RV.val (PV.str x)) else EM.bad) e = _
  split <;> rfl
@[simp] theorem bStr_int {e : En} {i : Int} : bStr [.int i] e = if numOk i then .ok (.val (.str (numS i))) e else .bad := by
  show (if numOk i = true then EM.ret (RV.val (PV.str (toString i))) else EM.bad) e = _
  split <;> rfl
@[simp] theorem bStr_str {e : En} {x : Str} : bStr [.str x] e = .ok (.val (.str x)) e := rfl
@[simp] theorem b_add_s {e : En} {a b : Str} : opB .Add (.str a) (.str b) e = if szOk (a.length + b.length) then .ok (.val (.str (a ++ b))) e else .bad := by
  show (if szOk (a.length + b.length) = true then EM.ret (RV.val (PV.str (a ++ b))) else EM.bad) e = _
  split <;> rfl
@[simp] theorem b_add_t {e : En} {a b : List PV} : opB .Add (.tup a) (.tup b) e = if !a.isEmpty && szOk (a.length + b.length) then .ok (.val (.tup (a ++ b))) e else .bad := by
  show (if (!a.isEmpty && szOk (a.length + b.length)) = true then EM.ret (RV.val (PV.tup (a ++ b))) else EM.bad) e = _
  split <;> rfl
@[simp] theorem opNeg_i {e : En} {i : Int} : opNeg (.int i) e = .ok (.val (.int (-i))) e := rfl
@[simp] theorem c_is_bb {e : En} {a b : Bool} : opC .Is (.bl a) (.bl b) e = .ok (.val (.bl (decide (a = b)))) e := rfl
@[simp] theorem c_isn_bb {e : En} {a b : Bool} : opC .IsNot (.bl a) (.bl b) e = .ok (.val (.bl (!decide (a = b)))) e := rfl
@[simp] theorem c_is_n {e : En} {p : PV} : opC .Is p .non e = .ok (.val (.bl (isNon p))) e := rfl
@[simp] theorem c_isn_n {e : En} {p : PV} : opC .IsNot p .non e = .ok (.val (.bl (!isNon p))) e := rfl
@[simp] theorem isNon_non : isNon .non = true := rfl
@[simp] theorem isNon_tup {xs : List PV} : isNon (.tup xs) = false := rfl
@[simp] theorem isNon_int {i : Int} : isNon (.int i) = false := rfl
@[simp] theorem isNon_str {i : Str} : isNon (.str i) = false := rfl
@[simp] theorem splitP_s {e : En} {a b : Str} : splitP a (.str b) e = if !(b.length == 0) && decide (a.length + 2 ≤ sizeLine) then .ok (.own (.lst (strsP (Txt.split a b)))) e else .bad := by
  show (if (!(b.length == 0) && decide (a.length + 2 ≤ sizeLine)) = true then EM.ret (RV.own (MO.lst (strsP (Txt.split a b)))) else EM.bad) e = _
  split <;> rfl
theorem bRepr_app {e : En} {p : PV} : bRepr [p] e = match p.data with
  | some d => if repOk d then .ok (.val (.str d.shown)) e else .bad
  | none => .bad := by
  show (match p.data with
    | some d => if repOk d then EM.ret (RV.val (PV.str d.shown)) else EM.bad
    | none => EM.bad) e = _
  cases p.data with
  | none => rfl
  | some d => dsimp only; split <;> rfl
theorem repr_bl {e : En} {b : Bool} : bRepr [.bl b] e = .ok (.val (.str (if b then "True" else "False"))) e := by
  cases b <;> rfl
/-! ### texts of numbers -/
theorem strOk_iff {x : Str} : PyData.strOk x = true ↔ ∀ c ∈ TL.tl x, c < 0x110000 := by
  unfold PyData.strOk TL.tl
  rw [Array.all_eq_true']
  simp
theorem strOk_of (s : String) : PyData.strOk (Str.ofString s) = true := by
  rw [strOk_iff, TL.tl_ofString]
  intro c hc
  obtain ⟨d, _, rfl⟩ := List.mem_map.mp hc
  have := d.valid
  unfold UInt32.isValidChar Nat.isValidChar at this
  show d.val.toNat < _
  omega
theorem strOk_app {x y : Str} (hx : PyData.strOk x = true) (hy : PyData.strOk y = true) : PyData.strOk (x ++ y) = true := by
  rw [strOk_iff] at *
  rw [TL.tl_append]
  intro c hc
  rcases List.mem_append.mp hc with h | h
  · exact hx c h
  · exact hy c h
@[simp] theorem emp_app {x : Str} : Str.empty ++ x = x := TL.ext_tl (by rw [TL.tl_append]; rfl)
theorem len_app {x y : Str} : (x ++ y).length = x.length + y.length := by rw [TL.len_tl, TL.len_tl, TL.len_tl, TL.tl_append, List.length_append]
theorem len_num {i : Int} {k : Nat} (h0 : 0 ≤ i) (hk : 0 < k) (h : i < 10 ^ k) : (numS i).length ≤ k := by
  obtain ⟨n, rfl⟩ := Int.eq_ofNat_of_zero_le h0
  unfold numS
  rw [TL.len_tl, TL.tl_num]
  exact TL.numL_len hk (by exact_mod_cast h)
theorem numOk_of {i : Int} (h0 : -(2 ^ 64) < i) (h1 : i < 2 ^ 64) : numOk i = true := by
  refine decide_eq_true ?_
  by_cases hz : i.natAbs = 0
  · rw [hz]; decide
  · have h : i.natAbs < 2 ^ 64 := by omega
    have h3 := (Nat.log2_lt hz (k := 64)).mpr h
    omega
theorem strOk_num {i : Int} : PyData.strOk (numS i) = true := strOk_of _
theorem dot_num {i : Int} (h0 : 0 ≤ i) {c : Nat} (h : c < 48 ∨ 57 < c) : c ∉ TL.tl (numS i) := by
  obtain ⟨n, rfl⟩ := Int.eq_ofNat_of_zero_le h0
  unfold numS
  rw [TL.tl_num]
  exact TL.numL_free h
theorem split2 {x y d : Str} {c : Nat} (hd : TL.tl d = [c]) (hk : d.cps.all (· < 256) = true) (hx : c ∉ TL.tl x) (hy : c ∉ TL.tl y) : Txt.split (x ++ d ++ y) d = [x, y] := by
  have e : x ++ d ++ y = Txt.join d [x, y] := by rw [TL.join_eq]; rfl
  rw [e]
  refine TL.split_join hd hk (by simp) fun p hp => ?_
  rcases List.mem_cons.mp hp with rfl | hp
  · exact hx
  · rcases List.mem_cons.mp hp with rfl | hp
    · exact hy
    · cases hp
theorem repr_ne {b : Bool} {e : En} : opC .NotEq (.str (if b then Str.ofString "True" else Str.ofString "False")) (.str (if b then Str.ofString "True" else Str.ofString "False")) e = .ok (.val (.bl false)) e := by
  have h1 : PyData.strOk (Str.ofString "True") = true := by decide +kernel
  have h2 : PyData.strOk (Str.ofString "False") = true := by decide +kernel
  rw [opNe_app]
  cases b
  · simp [eqP_str h2 h2]
  · simp [eqP_str h1 h1]
theorem str_ne_self {x : Str} (h : PyData.strOk x = true) {e : En} : opC .NotEq (.str x) (.str x) e = .ok (.val (.bl false)) e := by
  rw [opNe_app]
  simp [eqP_str h h]
end QB

namespace K02
open PySem L2 QB
def c_MOST_DIGITS : PV := .int 3
def c_DIGITS : PV := .str "0123456789"
def sh__law_box_0 : Shape := ⟨2, [], [.pos 0, .pos 1], []⟩
def m__law_box : SM := (seqM (asgM 2 (two (opdM (two (opdM (EM.ret (.val (.int 8837)))) (slotM 1) (opB .Mult))) (opdM (EM.ret (.val (.int 41)))) (opB .Add))) (seqM (thenS (boolM (two (slotM 1) (opdM (bltM (opdsCons (slotM 0) opdsNil) bLen)) (opC .Lt))) fun k => if k then (asgM 2 (bltM (opdsCons (opdM (bltM (opdsCons (opdM (ixM (slotM 0) (slotM 1))) opdsNil) bInt')) opdsNil) bAbs)) else (thenS (boolM (two (opdM (bltM (opdsCons (slotM 0) opdsNil) bLen)) (opdM (EM.ret (.val (.int 0)))) (opC .Gt))) fun k => if k then (asgM 2 (two (slotM 2) (opdM (two (opdM (two (opdM (bltM (opdsCons (opdM (bltM (opdsCons (opdM (bltM (opdsCons (opdM (ixM (slotM 0) (opdM (two (opdM (bltM (opdsCons (slotM 1) opdsNil) bInt')) (opdM (bltM (opdsCons (slotM 0) opdsNil) bLen)) (opB .Mod))))) opdsNil) bInt')) opdsNil) bAbs)) opdsNil) bInt')) (opdM (EM.ret (.val (.int 2147483629)))) (opB .Mod))) (opdM (EM.ret (.val (.int 50021)))) (opB .Mult))) (opB .Add))) else skipM)) (seqM (asgM 3 (iteM (boolM (two (slotM 2) (opdM (two (opdM (EM.ret (.val (.int 10)))) (opdM (EM.ret (.val (.int 18)))) (opB .Pow))) (opC .GtE))) (getM 2) (EM.ret (.val (.int 0))))) (retM (lstM (valsCons (getM 3) (valsCons (two (opdM (two (opdM (bltM (opdsCons (opdM (two (opdM (two (opdM (two (opdM (bltM (opdsCons (slotM 2) opdsNil) bInt')) (opdM (EM.ret (.val (.int 2147483629)))) (opB .Mod))) (opdM (EM.ret (.val (.int 39373)))) (opB .Mult))) (opdM (two (opdM (EM.ret (.val (.int 30347)))) (slotM 1) (opB .Mult))) (opB .Add))) opdsNil) bInt')) (opdM (EM.ret (.val (.int 2147483629)))) (opB .Mod))) (opdM (EM.ret (.val (.int 1)))) (opB .Add)) (valsCons (EM.ret (.val (.int 0))) valsNil))))))))
def sem__law_box : FSem := bodyF 4 m__law_box
def E__law_box : FnE := ⟨"_law_box", ["_law_script", "_law_k"], [], sem__law_box, [sh__law_box_0]⟩
def sh__law_take_0 : Shape := ⟨2, [], [.pos 0, .pos 1], []⟩
def m__law_take : SM := (seqM (thenS (boolM (two (opdM (ixM (slotM 0) (opdM (EM.ret (.val (.int 0)))))) (opdM (EM.ret (.val (.int 0)))) (opC .Gt))) fun k => if k then (seqM (asgM 3 (two (opdM (bltM (opdsCons (opdM (ixM (slotM 0) (opdM (EM.ret (.val (.int 0)))))) opdsNil) bInt')) (slotM 1) (opB .Mod))) (seqM (setIxM 0 (opdM (EM.ret (.val (.int 0)))) (two (opdM (ixM (slotM 0) (opdM (EM.ret (.val (.int 0)))))) (slotM 1) (opB .FloorDiv))) (retM (getM 3)))) else skipM) (seqM (setIxM 0 (opdM (EM.ret (.val (.int 2)))) (two (opdM (ixM (slotM 0) (opdM (EM.ret (.val (.int 2)))))) (opdM (EM.ret (.val (.int 1)))) (opB .Add))) (seqM (asgM 2 (two (opdM (bltM (opdsCons (opdM (two (opdM (two (opdM (ixM (slotM 0) (opdM (EM.ret (.val (.int 1)))))) (opdM (two (opdM (EM.ret (.val (.int 104729)))) (opdM (ixM (slotM 0) (opdM (EM.ret (.val (.int 2)))))) (opB .Mult))) (opB .Add))) (opdM (EM.ret (.val (.int 48271)))) (opB .Mult))) opdsNil) bInt')) (opdM (EM.ret (.val (.int 2147483647)))) (opB .Mod))) (seqM (setIxM 0 (opdM (EM.ret (.val (.int 1)))) (two (opdM (two (opdM (bltM (opdsCons (opdM (two (opdM (two (slotM 2) (opdM (EM.ret (.val (.int 69623)))) (opB .Mult))) (opdM (EM.ret (.val (.int 20011)))) (opB .Add))) opdsNil) bInt')) (opdM (EM.ret (.val (.int 2147483629)))) (opB .Mod))) (opdM (EM.ret (.val (.int 1)))) (opB .Add))) (retM (two (opdM (bltM (opdsCons (opdM (two (opdM (two (opdM (two (slotM 2) (opdM (EM.ret (.val (.int 2147483647)))) (opB .Mult))) (opdM (ixM (slotM 0) (opdM (EM.ret (.val (.int 1)))))) (opB .Add))) (opdM (EM.ret (.val (.int 8191)))) (opB .FloorDiv))) opdsNil) bInt')) (slotM 1) (opB .Mod)))))))
def sem__law_take : FSem := bodyF 4 m__law_take
def E__law_take : FnE := ⟨"_law_take", ["_law_box_here", "_law_many"], [true], sem__law_take, [sh__law_take_0]⟩
def sh__law_release_0 : Shape := ⟨1, [], [.pos 0], []⟩
def m__law_release : SM := (seqM (asgM 1 (callM sem__law_take 2 sh__law_take_0 (opdsCons (slotM 0) (opdsCons (opdM (EM.ret (.val (.int 4)))) opdsNil)) opdsNil)) (seqM (thenS (boolM (two (slotM 1) (opdM (EM.ret (.val (.int 0)))) (opC .Eq))) fun k => if k then (retM (tupM (valsCons (two (opdM (EM.ret (.val (.int 1)))) (opdM (callM sem__law_take 2 sh__law_take_0 (opdsCons (slotM 0) (opdsCons (opdM (EM.ret (.val (.int 3)))) opdsNil)) opdsNil)) (opB .Add)) (valsCons (EM.ret (.val (.int 0))) valsNil)))) else skipM) (seqM (thenS (boolM (two (slotM 1) (opdM (EM.ret (.val (.int 1)))) (opC .Eq))) fun k => if k then (retM (tupM (valsCons (two (opdM (EM.ret (.val (.int 1)))) (opdM (callM sem__law_take 2 sh__law_take_0 (opdsCons (slotM 0) (opdsCons (opdM (EM.ret (.val (.int 98)))) opdsNil)) opdsNil)) (opB .Add)) (valsCons (callM sem__law_take 2 sh__law_take_0 (opdsCons (slotM 0) (opdsCons (opdM (EM.ret (.val (.int 99)))) opdsNil)) opdsNil) valsNil)))) else skipM) (retM (tupM (valsCons (two (opdM (EM.ret (.val (.int 1)))) (opdM (callM sem__law_take 2 sh__law_take_0 (opdsCons (slotM 0) (opdsCons (opdM (EM.ret (.val (.int 3)))) opdsNil)) opdsNil)) (opB .Add)) (valsCons (callM sem__law_take 2 sh__law_take_0 (opdsCons (slotM 0) (opdsCons (opdM (EM.ret (.val (.int 4)))) opdsNil)) opdsNil) valsNil)))))))
def sem__law_release : FSem := bodyF 2 m__law_release
def E__law_release : FnE := ⟨"_law_release", ["_law_box_here"], [true], sem__law_release, [sh__law_release_0]⟩
def sh_is_integer_0 : Shape := ⟨1, [], [.pos 0], []⟩
def m_is_integer : SM := (retM (andV (isiM (slotM 0) ["int"]) (notV (opdM (isiM (slotM 0) ["bool"])))))
def sem_is_integer : FSem := bodyF 1 m_is_integer
def E_is_integer : FnE := ⟨"is_integer", ["value"], [], sem_is_integer, [sh_is_integer_0]⟩
def sh_is_release_0 : Shape := ⟨1, [], [.pos 0], []⟩
def sh_is_release_1 : Shape := ⟨0, ["value"], [.kw 0], []⟩
def e_is_release_0 : EM RV := (callM sem_is_integer 1 sh_is_integer_0 (opdsCons (opdM (getM 1)) opdsNil) opdsNil)
def m_is_release : SM := (seqM (thenS (orT (notT (truM (opdM (isiM (slotM 0) ["tuple"])))) (orT (boolM (two (opdM (bltM (opdsCons (slotM 0) opdsNil) bLen)) (opdM (EM.ret (.val (.int 2)))) (opC .NotEq))) (notT (truM (opdM (bltM (opdsCons (opdM (lcM (itV (getM 0)) (bndNm 1) (EM.ret true) [1] (eltM e_is_release_0))) opdsNil) bAll)))))) fun k => if k then (retM (EM.ret (.val (.bl false)))) else skipM) (retM (andV (two (opdM (ixM (slotM 0) (opdM (EM.ret (.val (.int 0)))))) (opdM (EM.ret (.val (.int 1)))) (opC .GtE)) (two (opdM (ixM (slotM 0) (opdM (EM.ret (.val (.int 1)))))) (opdM (EM.ret (.val (.int 0)))) (opC .GtE)))))
def sem_is_release : FSem := bodyF 2 m_is_release
def E_is_release : FnE := ⟨"is_release", ["value"], [], sem_is_release, [sh_is_release_0, sh_is_release_1]⟩
def sh_release_text_0 : Shape := ⟨1, [], [.pos 0], []⟩
def sh_release_text_1 : Shape := ⟨0, ["release"], [.kw 0], []⟩
def m_release_text : SM := (retM (fjM [(one (opdM (ixM (slotM 0) (opdM (EM.ret (.val (.int 0)))))) fmtP), (EM.ret (.val (.str "."))), (one (opdM (ixM (slotM 0) (opdM (EM.ret (.val (.int 1)))))) fmtP)] Str.empty))
def sem_release_text : FSem := bodyF 1 m_release_text
def E_release_text : FnE := ⟨"release_text", ["release"], [], sem_release_text, [sh_release_text_0, sh_release_text_1]⟩
def sh_number_in_0 : Shape := ⟨1, [], [.pos 0], []⟩
def e_number_in_0 : EM RV := (two (slotM 1) (opdM (EM.ret (.val c_DIGITS))) (opC .In))
def m_number_in : SM := (seqM (thenS (orT (notT (boolM (chainM (opdM (EM.ret (.val (.int 1)))) (opdM (bltM (opdsCons (slotM 0) opdsNil) bLen)) (opdM (EM.ret (.val c_MOST_DIGITS))) .LtE .LtE))) (notT (truM (opdM (bltM (opdsCons (opdM (lcM (itV (getM 0)) (bndNm 1) (EM.ret true) [1] (eltM e_number_in_0))) opdsNil) bAll))))) fun k => if k then (retM (EM.ret (.val .non))) else skipM) (retM (iteM (andT (boolM (two (opdM (ixM (slotM 0) (opdM (EM.ret (.val (.int 0)))))) (opdM (EM.ret (.val (.str "0")))) (opC .Eq))) (boolM (two (slotM 0) (opdM (EM.ret (.val (.str "0")))) (opC .NotEq)))) (EM.ret (.val .non)) (bltM (opdsCons (slotM 0) opdsNil) bInt'))))
def sem_number_in : FSem := bodyF 2 m_number_in
def E_number_in : FnE := ⟨"number_in", ["text"], [], sem_number_in, [sh_number_in_0]⟩
def sh_release_in_0 : Shape := ⟨1, [], [.pos 0], []⟩
def e_release_in_0 : EM RV := (callM sem_number_in 1 sh_number_in_0 (opdsCons (opdM (getM 3)) opdsNil) opdsNil)
def m_release_in : SM := (seqM (asgM 1 (lcM (itV (strM1 (slotM 0) (opdM (EM.ret (.val (.str ".")))) splitP)) (bndNm 3) (EM.ret true) [3] (eltM e_release_in_0))) (seqM (asgM 2 (bltM (opdsCons (slotM 1) opdsNil) bTuple)) (retM (iteM (truM (opdM (callM sem_is_release 1 sh_is_release_0 (opdsCons (opdM (getM 2)) opdsNil) opdsNil))) (getM 2) (EM.ret (.val .non))))))
def sem_release_in : FSem := bodyF 4 m_release_in
def E_release_in : FnE := ⟨"release_in", ["text"], [], sem_release_in, [sh_release_in_0]⟩
def sh_read_release_0 : Shape := ⟨1, [], [.pos 0], []⟩
def sh_read_release_1 : Shape := ⟨0, ["text"], [.kw 0], []⟩
def m_read_release : SM := (seqM (asgM 1 (iteM (truM (opdM (isiM (slotM 0) ["str"]))) (callM sem_release_in 1 sh_release_in_0 (opdsCons (opdM (getM 0)) opdsNil) opdsNil) (EM.ret (.val .non)))) (seqM (thenS (boolM (two (slotM 1) (opdM (EM.ret (.val .non))) (opC .Is))) fun k => if k then badS else skipM) (retM (getM 1))))
def sem_read_release : FSem := bodyF 2 m_read_release
def E_read_release : FnE := ⟨"read_release", ["text"], [], sem_read_release, [sh_read_release_0, sh_read_release_1]⟩
def sh__law_is_number_0 : Shape := ⟨1, [], [.pos 0], []⟩
def m__law_is_number : SM := (retM (andV (isiM (slotM 0) ["int"]) (notV (opdM (isiM (slotM 0) ["bool"])))))
def sem__law_is_number : FSem := bodyF 1 m__law_is_number
def E__law_is_number : FnE := ⟨"_law_is_number", ["_law_thing"], [], sem__law_is_number, [sh__law_is_number_0]⟩
def sh__law_is_0 : Shape := ⟨1, [], [.pos 0], []⟩
def m__law_is : SM := (seqM (thenS (orT (notT (truM (opdM (isiM (slotM 0) ["tuple"])))) (orT (boolM (two (opdM (bltM (opdsCons (slotM 0) opdsNil) bLen)) (opdM (EM.ret (.val (.int 2)))) (opC .NotEq))) (orT (notT (truM (opdM (callM sem__law_is_number 1 sh__law_is_number_0 (opdsCons (opdM (ixM (slotM 0) (opdM (EM.ret (.val (.int 0)))))) opdsNil) opdsNil)))) (notT (truM (opdM (callM sem__law_is_number 1 sh__law_is_number_0 (opdsCons (opdM (ixM (slotM 0) (opdM (EM.ret (.val (.int 1)))))) opdsNil) opdsNil))))))) fun k => if k then (retM (EM.ret (.val (.bl false)))) else skipM) (retM (andV (two (opdM (ixM (slotM 0) (opdM (EM.ret (.val (.int 0)))))) (opdM (EM.ret (.val (.int 0)))) (opC .Gt)) (two (opdM (ixM (slotM 0) (opdM (EM.ret (.val (.int 1)))))) (opdM (one (opdM (EM.ret (.val (.int 1)))) opNeg)) (opC .Gt)))))
def sem__law_is : FSem := bodyF 1 m__law_is
def E__law_is : FnE := ⟨"_law_is", ["_law_thing"], [], sem__law_is, [sh__law_is_0]⟩
def sh__law_pick_0 : Shape := ⟨2, [], [.pos 0, .pos 1], []⟩
def m__law_pick : SM := (retM (ixM (slotM 1) (opdM (callM sem__law_take 2 sh__law_take_0 (opdsCons (slotM 0) (opdsCons (opdM (bltM (opdsCons (slotM 1) opdsNil) bLen)) opdsNil)) opdsNil))))
def sem__law_pick : FSem := bodyF 2 m__law_pick
def E__law_pick : FnE := ⟨"_law_pick", ["_law_box_here", "_law_some"], [true], sem__law_pick, [sh__law_pick_0]⟩
def sh__law_any_0 : Shape := ⟨2, [], [.pos 0, .pos 1], []⟩
def e__law_any_0 (F : FSem) : EM RV := (callM F 2 sh__law_any_0 (opdsCons (slotM 0) (opdsCons (opdM (two (slotM 1) (opdM (EM.ret (.val (.int 1)))) (opB .Sub))) opdsNil)) opdsNil)
def m__law_any (F : FSem) : SM := (seqM (asgM 2 (callM sem__law_take 2 sh__law_take_0 (opdsCons (slotM 0) (opdsCons (opdM (EM.ret (.val (.int 9)))) opdsNil)) opdsNil)) (seqM (thenS (orT (boolM (two (slotM 2) (opdM (EM.ret (.val (.int 5)))) (opC .Lt))) (boolM (two (slotM 1) (opdM (EM.ret (.val (.int 0)))) (opC .Eq)))) fun k => if k then (seqM (asgM 4 (lstM (valsCons (EM.ret (.val .non)) (valsCons (EM.ret (.val (.bl true))) (valsCons (EM.ret (.val (.bl false))) (valsCons (EM.ret (.val (.int 0))) (valsCons (EM.ret (.val (.int 1))) (valsCons (EM.ret (.val (.int 7))) (valsCons (one (opdM (EM.ret (.val (.int 1)))) opNeg) (valsCons (EM.ret (.val (.str ""))) (valsCons (EM.ret (.val (.str "a"))) (valsCons (EM.ret (.val (.str "1.2"))) (valsCons (EM.ret (.val (.int 98))) (valsCons (tupM valsNil) (valsCons (lstM valsNil) (valsCons (tupM (valsCons (EM.ret (.val (.int 1))) (valsCons (EM.ret (.val (.int 0))) valsNil))) (valsCons (tupM (valsCons (EM.ret (.val (.int 2))) (valsCons (EM.ret (.val (.int 5))) valsNil))) (valsCons (EM.ret (.val (.str "pin"))) (valsCons (tupM (valsCons (EM.ret (.val (.int 1))) valsNil)) (valsCons (tupM (valsCons (EM.ret (.val (.int 0))) (valsCons (EM.ret (.val (.int 1))) valsNil))) valsNil)))))))))))))))))))) (retM (callM sem__law_pick 2 sh__law_pick_0 (opdsCons (slotM 0) (opdsCons (opdM (getM 4)) opdsNil)) opdsNil))) else skipM) (seqM (asgM 3 (lcM (itA rng1 (opdsCons (opdM (callM sem__law_take 2 sh__law_take_0 (opdsCons (slotM 0) (opdsCons (opdM (EM.ret (.val (.int 4)))) opdsNil)) opdsNil)) opdsNil)) (bndNm 5) (EM.ret true) [5] (eltM (e__law_any_0 F)))) (retM (iteM (boolM (two (slotM 2) (opdM (EM.ret (.val (.int 7)))) (opC .Lt))) (getM 3) (bltM (opdsCons (slotM 3) opdsNil) bTuple))))))
def sem__law_any : Nat → FSem
  | 0 => badF
  | n + 1 => bodyF 6 (m__law_any (sem__law_any n))
def E__law_any (F : FSem) : FnE := ⟨"_law_any", ["_law_box_here", "_law_deep"], [true], F, [sh__law_any_0]⟩
def l_law_0 : SM := (thenS (boolM (two (opdM (bltM (opdsCons (opdM (callM sem_is_release 1 sh_is_release_0 (opdsCons (opdM (getM 7)) opdsNil) opdsNil)) opdsNil) bRepr)) (opdM (bltM (opdsCons (opdM (callM sem__law_is 1 sh__law_is_0 (opdsCons (opdM (getM 7)) opdsNil) opdsNil)) opdsNil) bRepr)) (opC .NotEq))) fun k => if k then (retM (EM.ret (.val (.bl false)))) else skipM)
def l_law_1 : SM := (forI (bndNm 7) (itV (tupM (valsCons (tupM (valsCons (ixM (slotM 4) (opdM (EM.ret (.val (.int 0))))) (valsCons (getM 6) valsNil))) (valsCons (tupM (valsCons (getM 6) (valsCons (ixM (slotM 4) (opdM (EM.ret (.val (.int 1))))) valsNil))) (valsCons (two (slotM 4) (opdM (tupM (valsCons (getM 6) valsNil))) (opB .Add)) (valsCons (getM 6) (valsCons (tupM (valsCons (getM 6) valsNil)) (valsCons (tupM (valsCons (getM 4) (valsCons (getM 6) valsNil))) valsNil)))))))) l_law_0)
def l_law_2 : SM := (seqM (asgM 4 (callM sem__law_release 1 sh__law_release_0 (opdsCons (slotM 2) opdsNil) opdsNil)) (seqM (thenS (orT (boolM (two (opdM (callM sem_is_release 1 sh_is_release_0 (opdsCons (opdM (getM 4)) opdsNil) opdsNil)) (opdM (EM.ret (.val (.bl true)))) (opC .IsNot))) (boolM (two (opdM (callM sem_is_release 1 sh_is_release_1 opdsNil (opdsCons (opdM (bltM (opdsCons (slotM 4) opdsNil) bList)) opdsNil))) (opdM (EM.ret (.val (.bl false)))) (opC .IsNot)))) fun k => if k then (retM (EM.ret (.val (.bl false)))) else skipM) (seqM (asgM 5 (two (opdM (two (opdM (bltM (opdsCons (opdM (ixM (slotM 4) (opdM (EM.ret (.val (.int 0)))))) opdsNil) bStr)) (opdM (EM.ret (.val (.str ".")))) (opB .Add))) (opdM (bltM (opdsCons (opdM (ixM (slotM 4) (opdM (EM.ret (.val (.int 1)))))) opdsNil) bStr)) (opB .Add))) (seqM (thenS (orT (boolM (two (opdM (callM sem_release_text 1 sh_release_text_0 (opdsCons (opdM (getM 4)) opdsNil) opdsNil)) (slotM 5) (opC .NotEq))) (boolM (two (opdM (callM sem_release_text 1 sh_release_text_1 opdsNil (opdsCons (opdM (getM 4)) opdsNil))) (slotM 5) (opC .NotEq)))) fun k => if k then (retM (EM.ret (.val (.bl false)))) else skipM) (seqM (thenS (orT (boolM (two (opdM (bltM (opdsCons (opdM (callM sem_read_release 1 sh_read_release_0 (opdsCons (opdM (getM 5)) opdsNil) opdsNil)) opdsNil) bRepr)) (opdM (bltM (opdsCons (slotM 4) opdsNil) bRepr)) (opC .NotEq))) (boolM (two (opdM (bltM (opdsCons (opdM (callM sem_read_release 1 sh_read_release_1 opdsNil (opdsCons (opdM (getM 5)) opdsNil))) opdsNil) bRepr)) (opdM (bltM (opdsCons (slotM 4) opdsNil) bRepr)) (opC .NotEq)))) fun k => if k then (retM (EM.ret (.val (.bl false)))) else skipM) (seqM (forI (bndNm 6) (itV (tupM (valsCons (two (opdM (EM.ret (.val (.int 0)))) (opdM (ixM (slotM 4) (opdM (EM.ret (.val (.int 1)))))) (opB .Sub)) (valsCons (EM.ret (.val (.int 0))) (valsCons (EM.ret (.val (.bl true))) (valsCons (EM.ret (.val (.bl false))) (valsCons (EM.ret (.val .non)) (valsCons (bltM (opdsCons (opdM (ixM (slotM 4) (opdM (EM.ret (.val (.int 0)))))) opdsNil) bStr) (valsCons (tupM (valsCons (ixM (slotM 4) (opdM (EM.ret (.val (.int 0))))) valsNil)) (valsCons (lstM valsNil) (valsCons (EM.ret (.val (.int 99))) valsNil))))))))))) l_law_1) (seqM (asgM 7 (callM (sem__law_any 4) 2 sh__law_any_0 (opdsCons (slotM 2) (opdsCons (opdM (EM.ret (.val (.int 3)))) opdsNil)) opdsNil)) (thenS (boolM (two (opdM (bltM (opdsCons (opdM (callM sem_is_release 1 sh_is_release_0 (opdsCons (opdM (getM 7)) opdsNil) opdsNil)) opdsNil) bRepr)) (opdM (bltM (opdsCons (opdM (callM sem__law_is 1 sh__law_is_0 (opdsCons (opdM (getM 7)) opdsNil) opdsNil)) opdsNil) bRepr)) (opC .NotEq))) fun k => if k then (retM (EM.ret (.val (.bl false)))) else skipM))))))))
def l_law_3 : SM := (seqM (asgM 2 (callM sem__law_box 2 sh__law_box_0 (opdsCons (opdM (getM 0)) (opdsCons (opdM (getM 1)) opdsNil)) opdsNil)) (forI (bndNm 3) (itA rng1 (opdsCons (opdM (EM.ret (.val (.int 6)))) opdsNil)) l_law_2))
def m_law : SM := (seqM (forI (bndNm 1) (itA rng1 (opdsCons (opdM (bltM (opdsCons (opdM (EM.ret (.val (.int 2)))) (opdsCons (opdM (bltM (opdsCons (opdM (EM.ret (.val (.int 4)))) (opdsCons (opdM (bltM (opdsCons (slotM 0) opdsNil) bLen)) opdsNil)) bMin)) opdsNil)) bMax)) opdsNil)) l_law_3) (retM (two (opdM (callM sem_is_release 1 sh_is_release_0 (opdsCons (opdM (tupM (valsCons (EM.ret (.val (.int 1))) (valsCons (EM.ret (.val (.int 0))) valsNil)))) opdsNil) opdsNil)) (opdM (EM.ret (.val (.bl true)))) (opC .Is))))
def sem_law : FSem := bodyF 8 m_law
def E_law : FnE := ⟨"law", ["_law_script"], [], sem_law, []⟩
end K02

namespace K02
open PySem L2 QB
def Bx (o : MO) : Prop := ∃ g m c : Int, 0 ≤ g ∧ o = .lst [.int g, .int m, .int c]
theorem mulL (i j : Int) (h : -(2 ^ 64) < i ∧ i < 2 ^ 64) : mulOk i j = true := mulOk_l h
theorem mulR (i j : Int) (h : -(2 ^ 64) < j ∧ j < 2 ^ 64) : mulOk i j = true := mulOk_r h
theorem take_spec {o : MO} {n : Int} (hb : Bx o) (h0 : 0 < n) (h1 : n < 1073741824) :
    ∃ r o' e', 0 ≤ r ∧ r < n ∧ Bx o' ∧ sem__law_take [.par o, .val (.int n)] = .ret (.val (.int r)) (some (.par o') :: e') := by
  obtain ⟨g, m, c, hg, rfl⟩ := hb
  have M1 : ∀ x : Int, mulOk 104729 x = true := fun x => mulL _ _ (by omega)
  have M2 : ∀ x : Int, mulOk x 48271 = true := fun x => mulR _ _ (by omega)
  have M3 : ∀ x : Int, mulOk x 69623 = true := fun x => mulR _ _ (by omega)
  have M4 : ∀ x : Int, mulOk x 2147483647 = true := fun x => mulR _ _ (by omega)
  by_cases hp : 0 < g
  · simp [sem__law_take, m__law_take, hp, h0, h1, M1, M2, M3, M4]
    exact ⟨_, Int.emod_nonneg _ (by omega), Int.emod_lt_of_pos _ h0, ⟨_, _, _, Int.ediv_nonneg hg (by omega), rfl⟩, rfl⟩
  · simp [sem__law_take, m__law_take, hp, h0, h1, M1, M2, M3, M4]
    exact ⟨_, Int.emod_nonneg _ (by omega), Int.emod_lt_of_pos _ h0, ⟨_, _, _, hg, rfl⟩, rfl⟩
def Rl (p : PV) : Prop := ∃ a b : Int, 1 ≤ a ∧ 0 ≤ b ∧ a ≤ 98 ∧ b ≤ 98 ∧ p = .tup [.int a, .int b]
theorem release_spec {o : MO} (hb : Bx o) :
    ∃ p o' e', Rl p ∧ Bx o' ∧ sem__law_release [.par o] = .ret (.val p) (some (.par o') :: e') := by
  obtain ⟨r, o1, e1, h0, h1, b1, E1⟩ := take_spec (n := 4) hb (by omega) (by omega)
  obtain ⟨r2, o2, e2, h2, h2', b2, E2⟩ := take_spec (n := 3) b1 (by omega) (by omega)
  obtain ⟨r3, o3, e3, h3, h3', b3, E3⟩ := take_spec (n := 98) b1 (by omega) (by omega)
  obtain ⟨r4, o4, e4, h4, h4', b4, E4⟩ := take_spec (n := 99) b3 (by omega) (by omega)
  obtain ⟨r5, o5, e5, h5, h5', b5, E5⟩ := take_spec (n := 4) b2 (by omega) (by omega)
  by_cases k0 : r = 0
  · simp [sem__law_release, m__law_release, sh__law_take_0, pick, Src.get, E1, E2, E3, E4, E5, k0]
    exact ⟨⟨_, _, by omega, by omega, by omega, by omega, rfl⟩, b2⟩
  · by_cases k1 : r = 1
    · simp [sem__law_release, m__law_release, sh__law_take_0, pick, Src.get, E1, E2, E3, E4, E5, k1]
      exact ⟨⟨_, _, by omega, by omega, by omega, by omega, rfl⟩, b4⟩
    · simp [sem__law_release, m__law_release, sh__law_take_0, pick, Src.get, E1, E2, E3, E4, E5, k0, k1]
      exact ⟨⟨_, _, by omega, by omega, by omega, by omega, rfl⟩, b5⟩
theorem scr_ix {ns : List Int} {k : Int} (h0 : 0 ≤ k) (h1 : k < ns.length) : ∃ v, ixP (.rdl (ns.map .int)) (.int k) = some (.int v) := by
  obtain ⟨j, rfl⟩ := Int.eq_ofNat_of_zero_le h0
  have hj : j < ns.length := by omega
  refine ⟨ns[j], ?_⟩
  simp [ixP, atI, ixN, hj]
theorem box_spec {ns : List Int} {k : Int} (h0 : 0 ≤ k) :
    ∃ o e', Bx o ∧ sem__law_box [.val (.rdl (ns.map .int)), .val (.int k)] = .ret (.own o) e' := by
  have M1 : ∀ x : Int, mulOk 8837 x = true := fun x => mulL _ _ (by omega)
  have M2 : ∀ x : Int, mulOk x 50021 = true := fun x => mulR _ _ (by omega)
  have M3 : ∀ x : Int, mulOk x 39373 = true := fun x => mulR _ _ (by omega)
  have M4 : ∀ x : Int, mulOk 30347 x = true := fun x => mulL _ _ (by omega)
  by_cases h1 : k < ns.length
  · obtain ⟨v, hv⟩ := scr_ix h0 h1
    by_cases h2 : (1000000000000000000 : Int) ≤ (if v < 0 then -v else v)
    · simp [sem__law_box, m__law_box, h1, hv, M1, M2, M3, M4, h2]
      exact ⟨_, _, _, by split <;> omega, rfl⟩
    · simp [sem__law_box, m__law_box, h1, hv, M1, M2, M3, M4, h2]
      exact ⟨_, _, _, by omega, rfl⟩
  · by_cases hn : 0 < (ns.length : Int)
    · obtain ⟨v, hv⟩ := scr_ix (ns := ns) (k := k % ns.length) (Int.emod_nonneg _ (by omega)) (Int.emod_lt_of_pos _ (by omega))
      have hn' : 0 < ns.length := by omega
      have hm : 0 ≤ (if v < 0 then -v else v) % 2147483629 := Int.emod_nonneg _ (by omega)
      by_cases h2 : (1000000000000000000 : Int) ≤ 8837 * k + 41 + (if v < 0 then -v else v) % 2147483629 * 50021
      · simp [sem__law_box, m__law_box, h1, hn, hn', hv, M1, M2, M3, M4, h2]
        exact ⟨_, _, _, by omega, rfl⟩
      · simp [sem__law_box, m__law_box, h1, hn, hn', hv, M1, M2, M3, M4, h2]
        exact ⟨_, _, _, by omega, rfl⟩
    · have hn' : ¬ 0 < ns.length := by omega
      by_cases h2 : (1000000000000000000 : Int) ≤ 8837 * k + 41
      · simp [sem__law_box, m__law_box, h1, hn, hn', M1, M2, M3, M4, h2]
        exact ⟨_, _, _, by omega, rfl⟩
      · simp [sem__law_box, m__law_box, h1, hn, hn', M1, M2, M3, M4, h2]
        exact ⟨_, _, _, by omega, rfl⟩

/-! releases -/
def isNum : PV → Bool
  | .int _ => true
  | _ => false
theorem isint_eq {p : PV} (h : Dt p) : ∃ e, sem_is_integer [.val p] = .ret (.val (.bl (isNum p))) e := by
  obtain ⟨t, ht⟩ := h.ty
  cases p <;> simp [sem_is_integer, m_is_integer, isNum] <;> cases ht
theorem isnum_eq {p : PV} (h : Dt p) : ∃ e, sem__law_is_number [.val p] = .ret (.val (.bl (isNum p))) e := by
  obtain ⟨t, ht⟩ := h.ty
  cases p <;> simp [sem__law_is_number, m__law_is_number, isNum] <;> cases ht
def isRel : PV → Bool
  | .tup [.int a, .int b] => decide (1 ≤ a) && decide (0 ≤ b)
  | _ => false
theorem isNum_inv {p : PV} (h : isNum p = true) : ∃ i, p = .int i := by
  cases p <;> first | exact ⟨_, rfl⟩ | cases h
theorem isRel_no {x y : PV} (h : ¬ (isNum x = true ∧ isNum y = true)) : isRel (.tup [x, y]) = false := by
  cases x <;> cases y <;> first | rfl | (exact absurd ⟨rfl, rfl⟩ h)
theorem elt_int {p q : PV} (h : Dt p) : e_is_release_0 [some (.val q), some (.val p)] = .ok (.val (.bl (isNum p))) [some (.val q), some (.val p)] := by
  obtain ⟨e, he⟩ := isint_eq h
  simp [e_is_release_0, sh_is_integer_0, pick, Src.get, he]
theorem isrel_eq {p : PV} (h : Dt p) : ∃ e, sem_is_release [.val p] = .ret (.val (.bl (isRel p))) e := by
  obtain ⟨t, ht⟩ := h.ty
  cases p with
  | ins c ks xs => cases ht
  | tup xs =>
    have hx := dt_tup.mp h
    have lp : lcLoop (lcTurn (bndNm 1) (EM.ret true) [1] (eltM e_is_release_0)) xs [some (.val (.tup xs)), none] = .ok (xs.map fun x => .bl (isNum x)) [some (.val (.tup xs)), none] := by
      refine lcLoop_map fun p hp => ?_
      simp [elt_int (hx p hp)]
    match xs, hx, lp with
    | [], _, _ => simp [sem_is_release, m_is_release, isRel]
    | [x], _, _ => simp [sem_is_release, m_is_release, isRel]
    | [x, y], hx, lp =>
      simp only [List.map] at lp
      by_cases hn : isNum x = true ∧ isNum y = true
      · obtain ⟨h1, h2⟩ := hn
        obtain ⟨a, rfl⟩ := isNum_inv h1
        obtain ⟨b, rfl⟩ := isNum_inv h2
        by_cases ha : 1 ≤ a
        · by_cases hb : 0 ≤ b <;> simp [sem_is_release, m_is_release, lp, isNum, isRel, ha, hb]
        · simp [sem_is_release, m_is_release, lp, isNum, isRel, ha]
      · have hr := isRel_no hn
        have hf : (isNum x && isNum y) = false := by
          cases z1 : isNum x <;> cases z2 : isNum y <;> simp_all
        simp [sem_is_release, m_is_release, lp, hr, hf]
    | x :: y :: z :: r, _, _ =>
      have hne : ¬ ((r.length : Int) + 1 + 1 + 1 = 2) := by omega
      simp [sem_is_release, m_is_release, isRel, hne]
  | _ => simp [sem_is_release, m_is_release, isRel]
theorem lawis_eq {p : PV} (h : Dt p) : ∃ e, sem__law_is [.val p] = .ret (.val (.bl (isRel p))) e := by
  obtain ⟨t, ht⟩ := h.ty
  cases p with
  | ins c ks xs => cases ht
  | tup xs =>
    have hx := dt_tup.mp h
    match xs, hx with
    | [], _ => simp [sem__law_is, m__law_is, isRel]
    | [x], _ => simp [sem__law_is, m__law_is, isRel]
    | [x, y], hx =>
      obtain ⟨e1, E1⟩ := isnum_eq (hx x (by simp))
      obtain ⟨e2, E2⟩ := isnum_eq (hx y (by simp))
      by_cases hn : isNum x = true ∧ isNum y = true
      · obtain ⟨h1, h2⟩ := hn
        obtain ⟨a, rfl⟩ := isNum_inv h1
        obtain ⟨b, rfl⟩ := isNum_inv h2
        rw [h1] at E1
        rw [h2] at E2
        by_cases ha : 1 ≤ a
        · have ha' : 0 < a := by omega
          by_cases hb : 0 ≤ b
          · have hb' : -1 < b := by omega
            simp [sem__law_is, m__law_is, sh__law_is_number_0, pick, Src.get, E1, E2, isRel, ha, hb, ha', hb']
          · have hb' : ¬ -1 < b := by omega
            simp [sem__law_is, m__law_is, sh__law_is_number_0, pick, Src.get, E1, E2, isRel, ha, hb, ha', hb']
        · have ha' : ¬ 0 < a := by omega
          simp [sem__law_is, m__law_is, sh__law_is_number_0, pick, Src.get, E1, E2, isRel, ha, ha']
      · have hr := isRel_no hn
        cases z1 : isNum x with
        | false =>
          rw [z1] at E1
          simp [sem__law_is, m__law_is, sh__law_is_number_0, pick, Src.get, E1, hr]
        | true =>
          have z2 : isNum y = false := by
            cases z : isNum y with
            | false => rfl
            | true => exact absurd ⟨z1, z⟩ hn
          rw [z1] at E1
          rw [z2] at E2
          simp [sem__law_is, m__law_is, sh__law_is_number_0, pick, Src.get, E1, E2, hr]
    | x :: y :: z :: r, _ =>
      have hne : ¬ ((r.length : Int) + 1 + 1 + 1 = 2) := by omega
      simp [sem__law_is, m__law_is, isRel, hne]
  | _ => simp [sem__law_is, m__law_is, isRel]
/-! texts -/
def ev (n : Nat) : Bool := match sem_number_in [.val (.str (numS n))] with
  | .ret (.val (.int k)) _ => k == n
  | _ => false
theorem ev_all : (List.range 100).all ev = true := by decide +kernel
theorem number_eq {i : Int} (h0 : 0 ≤ i) (h1 : i < 100) : ∃ e, sem_number_in [.val (.str (numS i))] = .ret (.val (.int i)) e := by
  obtain ⟨n, rfl⟩ := Int.eq_ofNat_of_zero_le h0
  have h := List.all_eq_true.mp ev_all n (List.mem_range.mpr (by omega))
  unfold ev at h
  split at h
  · rename_i k e he
    have : k = n := by simpa using h
    subst this
    exact ⟨e, he⟩
  · cases h
def txt (a b : Int) : Str := numS a ++ Str.ofString "." ++ numS b
theorem text_eq {a b : Int} (ha : 1 ≤ a) (ha' : a ≤ 98) (hb : 0 ≤ b) (hb' : b ≤ 98) : ∃ e, sem_release_text [.val (.tup [.int a, .int b])] = .ret (.val (.str (txt a b))) e := by
  have n1 := numOk_of (i := a) (by omega) (by omega)
  have n2 := numOk_of (i := b) (by omega) (by omega)
  have l1 := len_num (i := a) (k := 2) (by omega) (by omega) (by omega)
  have l2 := len_num (i := b) (k := 2) (by omega) (by omega) (by omega)
  have l0 : (Str.ofString ".").length = 1 := by decide +kernel
  have z1 : (numS a).length ≤ 16777216 := by omega
  have z2 : (numS a ++ Str.ofString ".").length ≤ 16777216 := by rw [len_app]; omega
  have z3 : (numS a ++ Str.ofString "." ++ numS b).length ≤ 16777216 := by rw [len_app, len_app]; omega
  simp [sem_release_text, m_release_text, n1, n2, z1, z2, z3, txt]
theorem in_eq {a b : Int} (ha : 1 ≤ a) (ha' : a ≤ 98) (hb : 0 ≤ b) (hb' : b ≤ 98) : ∃ e, sem_release_in [.val (.str (txt a b))] = .ret (.val (.tup [.int a, .int b])) e := by
  have l1 := len_num (i := a) (k := 2) (by omega) (by omega) (by omega)
  have l2 := len_num (i := b) (k := 2) (by omega) (by omega) (by omega)
  have l0 : (Str.ofString ".").length = 1 := by decide +kernel
  have lt : (txt a b).length + 2 ≤ sizeLine := by unfold txt; rw [len_app, len_app, sizeLine_eq]; omega
  have sp : Txt.split (txt a b) (Str.ofString ".") = [numS a, numS b] := split2 (c := 46) (by decide +kernel) (by decide +kernel) (dot_num (by omega) (by omega)) (dot_num (by omega) (by omega))
  obtain ⟨e1, E1⟩ := number_eq (i := a) (by omega) (by omega)
  obtain ⟨e2, E2⟩ := number_eq (i := b) (by omega) (by omega)
  obtain ⟨e3, E3⟩ := isrel_eq (p := .tup [.int a, .int b]) (dt_tup.mpr fun x hx => by
    rcases List.mem_cons.mp hx with rfl | hx
    · exact dt_int
    · rcases List.mem_cons.mp hx with rfl | hx
      · exact dt_int
      · cases hx)
  have hr : isRel (.tup [.int a, .int b]) = true := by simp [isRel, ha, hb]
  rw [hr] at E3
  simp [sem_release_in, m_release_in, l0, lt, sp, strsP, lcLoop_cons', e_release_in_0, sh_number_in_0, sh_is_release_0, pick, Src.get, E1, E2, E3]
theorem read_eq {a b : Int} (ha : 1 ≤ a) (ha' : a ≤ 98) (hb : 0 ≤ b) (hb' : b ≤ 98) : ∃ e, sem_read_release [.val (.str (txt a b))] = .ret (.val (.tup [.int a, .int b])) e := by
  obtain ⟨e1, E1⟩ := in_eq ha ha' hb hb'
  simp [sem_read_release, m_read_release, sh_release_in_0, pick, Src.get, E1]
/-! anything -/
theorem pick_spec {o : MO} {xs : List PV} (hb : Bx o) (h0 : 0 < xs.length) (h1 : xs.length < 1000) :
    ∃ p o' e', p ∈ xs ∧ Bx o' ∧ sem__law_pick [.par o, .val (.lst xs)] = .ret (.val p) (some (.par o') :: e') := by
  obtain ⟨r, o1, e1, r0, r1, b1, E1⟩ := take_spec (n := xs.length) hb (by omega) (by omega)
  obtain ⟨k, rfl⟩ := Int.eq_ofNat_of_zero_le r0
  have hk : k < xs.length := by omega
  have hx : ixP (.lst xs) (.int k) = some xs[k] := by simp [ixP, atI, ixN, hk]
  refine ⟨xs[k], o1, [some (.val (.lst xs))], List.getElem_mem hk, b1, ?_⟩
  simp [sem__law_pick, m__law_pick, sh__law_take_0, pick, Src.get, E1, hx]
def anyL : List PV := [.non, .bl true, .bl false, .int 0, .int 1, .int 7, .int (-1), .str "", .str "a", .str "1.2", .int 98, .tup [], .lst [], .tup [.int 1, .int 0], .tup [.int 2, .int 5], .str "pin", .tup [.int 1], .tup [.int 0, .int 1]]
theorem anyL_dt : ∀ p ∈ anyL, Dt p := by
  intro p hp
  simp [anyL] at hp
  rcases hp with rfl | rfl | rfl | rfl | rfl | rfl | rfl | rfl | rfl | rfl | rfl | rfl | rfl | rfl | rfl | rfl | rfl | rfl <;> exact ⟨_, rfl⟩
theorem any_spec : ∀ (n : Nat) {o : MO}, Bx o → ∃ p o' e', Dt p ∧ Bx o' ∧ sem__law_any (n + 1) [.par o, .val (.int n)] = .ret (.val p) (some (.par o') :: e') := by
  intro n
  induction n with
  | zero =>
    intro o hb
    obtain ⟨r, o1, e1, r0, r1, b1, E1⟩ := take_spec (n := 9) hb (by omega) (by omega)
    obtain ⟨p, o2, e2, hp, b2, E2⟩ := pick_spec (xs := anyL) b1 (by decide) (by decide)
    simp only [anyL] at E2
    by_cases hr : r < 5
    · simp [sem__law_any, m__law_any, sh__law_take_0, sh__law_pick_0, pick, Src.get, E1, hr, E2]
      exact ⟨anyL_dt p hp, b2⟩
    · simp [sem__law_any, m__law_any, sh__law_take_0, sh__law_pick_0, pick, Src.get, E1, hr, E2]
      exact ⟨anyL_dt p hp, b2⟩
  | succ n ih =>
    intro o hb
    have hs : sem__law_any (n + 1 + 1) = bodyF 6 (m__law_any (sem__law_any (n + 1))) := rfl
    obtain ⟨r, o1, e1, r0, r1, b1, E1⟩ := take_spec (n := 9) hb (by omega) (by omega)
    obtain ⟨p, o2, e2, hp, b2, E2⟩ := pick_spec (xs := anyL) b1 (by decide) (by decide)
    simp only [anyL] at E2
    by_cases hr : r < 5
    · simp [hs, m__law_any, sh__law_take_0, sh__law_pick_0, pick, Src.get, E1, hr, E2]
      exact ⟨anyL_dt p hp, b2⟩
    · obtain ⟨k, o3, e3, k0, k1, b3, E3⟩ := take_spec (n := 4) b1 (by omega) (by omega)
      have hn : ¬ ((n : Int) + 1 = 0) := by omega
      have hk : inR k = true := inR_of (by omega) (by omega)
      obtain ⟨rs, e4, h1, ⟨o4, b4, rfl⟩, h3, h4⟩ := lcLoop_inv (turn := lcTurn (bndNm 5) (EM.ret true) [5] (eltM (e__law_any_0 (sem__law_any (n + 1))))) (P := Dt) (ps := rngP 0 k) (e := [some (.par o3), some (.val (.int (n + 1))), some (.val (.int r)), none, none, none])
        (I := fun e => ∃ o, Bx o ∧ e = [some (.par o), some (.val (.int (n + 1))), some (.val (.int r)), none, none, none]) (by
          rintro p hp _ ⟨o, hb, rfl⟩
          obtain ⟨q, o5, e5, d5, b5, E5⟩ := ih hb
          have en : (n : Int) + 1 - 1 = n := by omega
          simp [e__law_any_0, sh__law_any_0, pick, Src.get, en, E5]
          exact ⟨_, _, ⟨rfl, rfl⟩, ⟨o5, b5, rfl⟩, by simp, by simpa using d5⟩) ⟨o3, b3, rfl⟩
      have hl : rs.length ≤ 16777216 := by
        have : (rngP 0 k).length ≤ 4 := by unfold rngP; simp; omega
        omega
      by_cases h7 : r < 7
      · simp [hs, m__law_any, sh__law_take_0, sh__law_pick_0, pick, Src.get, E1, hr, hn, E3, hk, h1, hl, h7]
        exact ⟨dt_lst.mpr h4, b4⟩
      · simp [hs, m__law_any, sh__law_take_0, sh__law_pick_0, pick, Src.get, E1, hr, hn, E3, hk, h1, hl, h7]
        exact ⟨dt_tup.mpr h4, b4⟩
theorem body0 {s k t g l o x : PV} {b : MO} (h : Dt x) : l_law_0 [some (.val s), some (.val k), some (.own b), some (.val t), some (.val g), some (.val l), some (.val o), some (.val x)] = .nx [some (.val s), some (.val k), some (.own b), some (.val t), some (.val g), some (.val l), some (.val o), some (.val x)] := by
  obtain ⟨e1, E1⟩ := isrel_eq h
  obtain ⟨e2, E2⟩ := lawis_eq h
  simp [l_law_0, sh_is_release_0, sh__law_is_0, pick, Src.get, E1, E2, repr_bl, repr_ne]
theorem dt_rel {a b : Int} : Dt (.tup [.int a, .int b]) := ⟨.tuple [.int a, .int b], rfl⟩
theorem body1 {s k t l o : PV} {x : Option Slot} {b : MO} {a c : Int} (ho : Dt o) (hx : pinO x = false) : ∃ x', pinO x' = false ∧ l_law_1 [some (.val s), some (.val k), some (.own b), some (.val t), some (.val (.tup [.int a, .int c])), some (.val l), some (.val o), x] = .nx [some (.val s), some (.val k), some (.own b), some (.val t), some (.val (.tup [.int a, .int c])), some (.val l), some (.val o), x'] := by
  obtain ⟨e', h, x', hx', rfl⟩ := loop_inv (b := bndNm 7) (body := l_law_0) (ps := [.tup [.int a, o], .tup [o, .int c], .tup [.int a, .int c, o], o, .tup [o], .tup [.tup [.int a, .int c], o]]) (e := [some (.val s), some (.val k), some (.own b), some (.val t), some (.val (.tup [.int a, .int c])), some (.val l), some (.val o), x])
    (I := fun e => ∃ x, pinO x = false ∧ e = [some (.val s), some (.val k), some (.own b), some (.val t), some (.val (.tup [.int a, .int c])), some (.val l), some (.val o), x]) (by
    rintro p hp _ ⟨x, hx, rfl⟩
    have hd : Dt p := by
      simp at hp
      rcases hp with rfl | rfl | rfl | rfl | rfl | rfl <;> first | exact ho | (refine dt_tup.mpr fun y hy => ?_; simp at hy; rcases hy with rfl | rfl | rfl) | (refine dt_tup.mpr fun y hy => ?_; simp at hy; rcases hy with rfl | rfl) | (refine dt_tup.mpr fun y hy => ?_; simp at hy; subst hy)
      all_goals first | exact ho | exact dt_int | exact dt_rel
    refine ⟨_, by simp [hx], _, body0 hd, _, rfl, rfl⟩) ⟨x, hx, rfl⟩
  refine ⟨x', hx', ?_⟩
  simp [l_law_1, h]
theorem rel_repr {a b : Int} (ha : 1 ≤ a) (ha' : a ≤ 98) (hb : 0 ≤ b) (hb' : b ≤ 98) : ∃ z, PyData.strOk z = true ∧ ∀ e, bRepr [.tup [.int a, .int b]] e = .ok (.val (.str z)) e := by
  have l1 := len_num (i := a) (k := 2) (by omega) (by omega) (by omega)
  have l2 := len_num (i := b) (k := 2) (by omega) (by omega) (by omega)
  have n1 := of_decide_eq_true (numOk_of (i := a) (by omega) (by omega))
  have n2 := of_decide_eq_true (numOk_of (i := b) (by omega) (by omega))
  have c1 : (Str.ofString "(").length = 1 := by decide +kernel
  have c2 : (Str.ofString ", ").length = 2 := by decide +kernel
  have c3 : (Str.ofString ")").length = 1 := by decide +kernel
  have e0 : (PyData.tuple [.int a, .int b]).shown = Str.ofString "(" ++ (numS a ++ Str.ofString ", " ++ numS b) ++ Str.ofString ")" := rfl
  refine ⟨(PyData.tuple [.int a, .int b]).shown, ?_, fun e => ?_⟩
  · rw [e0]
    exact strOk_app (strOk_app (strOk_of _) (strOk_app (strOk_app strOk_num (strOk_of _)) strOk_num)) (strOk_of _)
  · have hr : repOk (.tuple [.int a, .int b]) = true := by
      unfold repOk
      rw [e0]
      have : szOk (Str.ofString "(" ++ (numS a ++ Str.ofString ", " ++ numS b) ++ Str.ofString ")").length = true := by
        rw [szOk_lit]
        refine decide_eq_true ?_
        simp only [len_app]
        omega
      rw [this]
      simp [PyData.showable, PyData.showableAll, PyData.hasDict, PyData.hasDictAll, PyData.depth, PyData.depthAll, n1, n2]
    rw [bRepr_app]
    rw [show (PV.tup [.int a, .int b]).data = some (.tuple [.int a, .int b]) from rfl]
    simp [hr]
def I1 (s k : PV) (e : En) : Prop := ∃ b t g l o x, Bx b ∧ pinO t = false ∧ pinO g = false ∧ pinO l = false ∧ pinO o = false ∧ pinO x = false ∧ e = [some (.val s), some (.val k), some (.own b), t, g, l, o, x]
theorem body2 {s k : PV} {t : PV} {e : En} (h : I1 s k e) : ∃ e1, bndNm 3 t e = some e1 ∧ ∃ e2, l_law_2 e1 = .nx e2 ∧ I1 s k e2 := by
  obtain ⟨b, t0, g, l, o, x, hb, ht, hg, hl, ho, hx, rfl⟩ := h
  refine ⟨[some (.val s), some (.val k), some (.own b), some (.val t), g, l, o, x], by simp [ht], ?_⟩
  obtain ⟨p, b1, e1, ⟨a, c, a1, c0, a2, c2, rfl⟩, hb1, E1⟩ := release_spec hb
  obtain ⟨e2, E2⟩ := isrel_eq (dt_rel (a := a) (b := c))
  have r1 : isRel (.tup [.int a, .int c]) = true := by simp [isRel, a1, c0]
  rw [r1] at E2
  obtain ⟨e3, E3⟩ := isrel_eq (p := .lst [.int a, .int c]) ⟨.list [.int a, .int c], rfl⟩
  have r2 : isRel (.lst [.int a, .int c]) = false := rfl
  rw [r2] at E3
  obtain ⟨e4, E4⟩ := text_eq a1 a2 c0 c2
  obtain ⟨e5, E5⟩ := read_eq a1 a2 c0 c2
  obtain ⟨z, hz, E6⟩ := rel_repr a1 a2 c0 c2
  have n1 := numOk_of (i := a) (by omega) (by omega)
  have n2 := numOk_of (i := c) (by omega) (by omega)
  have l1 := len_num (i := a) (k := 2) (by omega) (by omega) (by omega)
  have l2 := len_num (i := c) (k := 2) (by omega) (by omega) (by omega)
  have l0 : (Str.ofString ".").length = 1 := by decide +kernel
  have z1 : (numS a).length + (Str.ofString ".").length ≤ 16777216 := by omega
  have z2 : (numS a ++ Str.ofString ".").length + (numS c).length ≤ 16777216 := by rw [len_app]; omega
  have et : numS a ++ Str.ofString "." ++ numS c = txt a c := rfl
  have ht : PyData.strOk (txt a c) = true := strOk_app (strOk_app strOk_num (strOk_of _)) strOk_num
  obtain ⟨e', h, o', x', ho', hx', rfl⟩ := loop_inv (b := bndNm 6) (body := l_law_1) (ps := [.int (-c), .int 0, .bl true, .bl false, .non, .str (numS a), .tup [.int a], .lst [], .int 99]) (e := [some (.val s), some (.val k), some (.own b1), some (.val t), some (.val (.tup [.int a, .int c])), some (.val (.str (txt a c))), o, x])
    (I := fun e => ∃ o x, pinO o = false ∧ pinO x = false ∧ e = [some (.val s), some (.val k), some (.own b1), some (.val t), some (.val (.tup [.int a, .int c])), some (.val (.str (txt a c))), o, x]) (by
    rintro p hp _ ⟨o, x, ho, hx, rfl⟩
    have hd : Dt p := by
      simp at hp
      rcases hp with rfl | rfl | rfl | rfl | rfl | rfl | rfl | rfl | rfl <;> exact ⟨_, rfl⟩
    obtain ⟨x', hx', B⟩ := body1 (s := s) (k := k) (t := t) (l := .str (txt a c)) (b := b1) (a := a) (c := c) hd hx
    refine ⟨_, by simp [ho], _, B, _, _, rfl, hx', rfl⟩) ⟨o, x, ho, hx, rfl⟩
  obtain ⟨q, b6, e6, hd6, hb6, E7⟩ := any_spec 3 hb1
  have E7' : sem__law_any 4 [.par b1, .val (.int 3)] = .ret (.val q) (some (.par b6) :: e6) := E7
  obtain ⟨e8, E8⟩ := isrel_eq hd6
  obtain ⟨e9, E9⟩ := lawis_eq hd6
  simp [l_law_2, sh__law_release_0, sh_is_release_0, sh_is_release_1, sh_release_text_0, sh_release_text_1, sh_read_release_0, sh_read_release_1, sh__law_any_0, sh__law_is_0, pick, Src.get, E1, E2, E3, E4, E5, E6, n1, n2, z1, z2, et, hg, hl, ho, hx, str_ne_self ht, str_ne_self hz, h, E7', E8, E9, hx', repr_bl, repr_ne]
  exact ⟨_, _, _, _, _, _, hb6, rfl, rfl, rfl, ho', rfl, rfl⟩
theorem law_true (ns : List Int) (hl : ns.length ≤ 63) : ∃ e', sem_law [.val (.rdl (ns.map .int))] = .ret (.val (.bl true)) e' := by
  obtain ⟨e', h, _⟩ := loop_inv (b := bndNm 1) (body := l_law_3) (ps := rngP 0 (if (2:Int) < if (ns.length : Int) < 4 then (ns.length : Int) else 4 then if (ns.length : Int) < 4 then (ns.length : Int) else 4 else 2)) (e := [some (.val (.rdl (ns.map .int))), none, none, none, none, none, none, none])
    (I := fun e => ∃ a b t z x one q, pinO a = false ∧ pinO b = false ∧ pinO t = false ∧ pinO z = false ∧ pinO x = false ∧ pinO one = false ∧ pinO q = false ∧ e = [some (.val (.rdl (ns.map .int))), a, b, t, z, x, one, q]) (by
      rintro p hp _ ⟨a, b, t, z, x, one, q, ha, hb, ht, hz, hx, ho, hq, rfl⟩
      obtain ⟨i, hi, _, rfl⟩ := rng_mem hp
      obtain ⟨bx, e1, hbx, E1⟩ := box_spec (ns := ns) hi
      refine ⟨[some (.val (.rdl (ns.map .int))), some (.val (.int i)), b, t, z, x, one, q], by simp [ha], ?_⟩
      obtain ⟨e2, h2, b2, t2, z2, x2, one2, q2, hb2, ht2, hz2, hx2, ho2, hq2, rfl⟩ := loop_inv (b := bndNm 3) (body := l_law_2) (ps := rngP 0 6) (e := [some (.val (.rdl (ns.map .int))), some (.val (.int i)), some (.own bx), t, z, x, one, q]) (I := I1 (.rdl (ns.map .int)) (.int i)) (fun p _ e h => body2 h) ⟨_, _, _, _, _, _, hbx, ht, hz, hx, ho, hq, rfl⟩
      have r5 : inR 6 = true := by decide
      simp [l_law_3, sh__law_box_0, pick, Src.get, E1, hb, h2, r5]
      exact ⟨_, rfl, _, rfl, _, ht2, _, hz2, _, hx2, _, ho2, _, hq2, rfl, rfl, rfl, rfl, rfl, rfl, rfl⟩) ⟨_, _, _, _, _, _, _, rfl, rfl, rfl, rfl, rfl, rfl, rfl, rfl⟩
  have hr : inR (if (2:Int) < if (ns.length : Int) < 4 then (ns.length : Int) else 4 then if (ns.length : Int) < 4 then (ns.length : Int) else 4 else 2) = true := inR_of (by split <;> omega) (by split <;> omega)
  obtain ⟨e2, E2⟩ := isrel_eq (dt_rel (a := 1) (b := 0))
  have r1 : isRel (.tup [.int 1, .int 0]) = true := rfl
  rw [r1] at E2
  simp [sem_law, m_law, h, hr, sh_is_release_0, pick, Src.get, E2]
end K02

namespace K02
open PySem L2 QB
def top (i : Nat) : Stmt := PySem.Challenge.pw_quietbumps_k02_releases_and_their_texts.main.body.getD i (.Pass ⟨0, 0, 0, 0⟩)
abbrev s__law_box : Stmt := top 14
def cfg__law_box : Cfg := ⟨["_law_script", "_law_k", "_law_cell", "_law_great"], [], [], ["len", "abs", "int"], false⟩
theorem den__law_box : denF cfg__law_box (defScope s__law_box) (defBody s__law_box) = some m__law_box := by kernel_rfl
theorem sc__law_box : FnScope cfg__law_box.N ["_law_script", "_law_k"] (defScope s__law_box) := ⟨rfl, rfl, rfl, by decide +kernel, rfl, by decide +kernel, by decide +kernel⟩
abbrev s__law_take : Stmt := top 15
def cfg__law_take : Cfg := ⟨["_law_box_here", "_law_many", "_law_blend", "_law_digit"], [], [], ["int"], false⟩
theorem den__law_take : denF cfg__law_take (defScope s__law_take) (defBody s__law_take) = some m__law_take := by kernel_rfl
theorem sc__law_take : FnScope cfg__law_take.N ["_law_box_here", "_law_many"] (defScope s__law_take) := ⟨rfl, rfl, rfl, by decide +kernel, rfl, by decide +kernel, by decide +kernel⟩
abbrev s__law_release : Stmt := top 17
def cfg__law_release : Cfg := ⟨["_law_box_here", "_law_form"], [E__law_take], [], [], false⟩
theorem den__law_release : denF cfg__law_release (defScope s__law_release) (defBody s__law_release) = some m__law_release := by kernel_rfl
theorem sc__law_release : FnScope cfg__law_release.N ["_law_box_here"] (defScope s__law_release) := ⟨rfl, rfl, rfl, by decide +kernel, rfl, by decide +kernel, by decide +kernel⟩
abbrev s_is_integer : Stmt := top 6
def cfg_is_integer : Cfg := ⟨["value"], [], [], ["isinstance", "int", "bool"], false⟩
theorem den_is_integer : denF cfg_is_integer (defScope s_is_integer) (defBody s_is_integer) = some m_is_integer := by kernel_rfl
theorem sc_is_integer : FnScope cfg_is_integer.N ["value"] (defScope s_is_integer) := ⟨rfl, rfl, rfl, by decide +kernel, rfl, by decide +kernel, by decide +kernel⟩
abbrev s_is_release : Stmt := top 9
def cfg_is_release : Cfg := ⟨["value", "number"], [E_is_integer], [], ["isinstance", "tuple", "len", "all"], false⟩
theorem den_is_release : denF cfg_is_release (defScope s_is_release) (defBody s_is_release) = some m_is_release := by kernel_rfl
theorem sc_is_release : FnScope cfg_is_release.N ["value"] (defScope s_is_release) := ⟨rfl, rfl, rfl, by decide +kernel, rfl, by decide +kernel, by decide +kernel⟩
abbrev s_release_text : Stmt := top 10
def cfg_release_text : Cfg := ⟨["release"], [], [], [], false⟩
theorem den_release_text : denF cfg_release_text (defScope s_release_text) (defBody s_release_text) = some m_release_text := by kernel_rfl
theorem sc_release_text : FnScope cfg_release_text.N ["release"] (defScope s_release_text) := ⟨rfl, rfl, rfl, by decide +kernel, rfl, by decide +kernel, by decide +kernel⟩
abbrev s_number_in : Stmt := top 7
def cfg_number_in : Cfg := ⟨["text", "sign"], [], [("MOST_DIGITS", c_MOST_DIGITS), ("DIGITS", c_DIGITS)], ["len", "all", "int"], false⟩
theorem den_number_in : denF cfg_number_in (defScope s_number_in) (defBody s_number_in) = some m_number_in := by kernel_rfl
theorem sc_number_in : FnScope cfg_number_in.N ["text"] (defScope s_number_in) := ⟨rfl, rfl, rfl, by decide +kernel, rfl, by decide +kernel, by decide +kernel⟩
abbrev s_release_in : Stmt := top 11
def cfg_release_in : Cfg := ⟨["text", "numbers", "found", "word"], [E_number_in, E_is_release], [], ["tuple"], false⟩
theorem den_release_in : denF cfg_release_in (defScope s_release_in) (defBody s_release_in) = some m_release_in := by kernel_rfl
theorem sc_release_in : FnScope cfg_release_in.N ["text"] (defScope s_release_in) := ⟨rfl, rfl, rfl, by decide +kernel, rfl, by decide +kernel, by decide +kernel⟩
abbrev s_read_release : Stmt := top 12
def cfg_read_release : Cfg := ⟨["text", "found"], [E_release_in], [], ["isinstance", "str"], false⟩
theorem den_read_release : denF cfg_read_release (defScope s_read_release) (defBody s_read_release) = some m_read_release := by kernel_rfl
theorem sc_read_release : FnScope cfg_read_release.N ["text"] (defScope s_read_release) := ⟨rfl, rfl, rfl, by decide +kernel, rfl, by decide +kernel, by decide +kernel⟩
abbrev s__law_is_number : Stmt := top 19
def cfg__law_is_number : Cfg := ⟨["_law_thing"], [], [], ["isinstance", "int", "bool"], false⟩
theorem den__law_is_number : denF cfg__law_is_number (defScope s__law_is_number) (defBody s__law_is_number) = some m__law_is_number := by kernel_rfl
theorem sc__law_is_number : FnScope cfg__law_is_number.N ["_law_thing"] (defScope s__law_is_number) := ⟨rfl, rfl, rfl, by decide +kernel, rfl, by decide +kernel, by decide +kernel⟩
abbrev s__law_is : Stmt := top 20
def cfg__law_is : Cfg := ⟨["_law_thing"], [E__law_is_number], [], ["isinstance", "tuple", "len"], false⟩
theorem den__law_is : denF cfg__law_is (defScope s__law_is) (defBody s__law_is) = some m__law_is := by kernel_rfl
theorem sc__law_is : FnScope cfg__law_is.N ["_law_thing"] (defScope s__law_is) := ⟨rfl, rfl, rfl, by decide +kernel, rfl, by decide +kernel, by decide +kernel⟩
abbrev s__law_pick : Stmt := top 16
def cfg__law_pick : Cfg := ⟨["_law_box_here", "_law_some"], [E__law_take], [], ["len"], false⟩
theorem den__law_pick : denF cfg__law_pick (defScope s__law_pick) (defBody s__law_pick) = some m__law_pick := by kernel_rfl
theorem sc__law_pick : FnScope cfg__law_pick.N ["_law_box_here", "_law_some"] (defScope s__law_pick) := ⟨rfl, rfl, rfl, by decide +kernel, rfl, by decide +kernel, by decide +kernel⟩
abbrev s__law_any : Stmt := top 18
def cfg__law_any (F : FSem) : Cfg := ⟨["_law_box_here", "_law_deep", "_law_form", "_law_found", "_law_some", "_law_turn"], [E__law_take, E__law_pick, (E__law_any F)], [], ["range", "tuple"], false⟩
theorem den__law_any (F : FSem) : denF (cfg__law_any F) (defScope s__law_any) (defBody s__law_any) = some (m__law_any F) := by kernel_rfl
theorem scN__law_any : FnScope ["_law_box_here", "_law_deep", "_law_form", "_law_found", "_law_some", "_law_turn"] ["_law_box_here", "_law_deep"] (defScope s__law_any) := ⟨rfl, rfl, rfl, by decide +kernel, rfl, by decide +kernel, by decide +kernel⟩
theorem sc__law_any (F : FSem) : FnScope (cfg__law_any F).N ["_law_box_here", "_law_deep"] (defScope s__law_any) := scN__law_any
abbrev s_law : Stmt := top 21
def cfg_law : Cfg := ⟨["_law_script", "_law_k", "_law_box_here", "_law_turn", "_law_good", "_law_line", "_law_odd", "_law_thing"], [E__law_box, E__law_release, E_is_release, E_release_text, E_read_release, E__law_is, (E__law_any (sem__law_any 4))], [], ["list", "str", "repr", "range", "max", "min", "len"], true⟩
theorem den_law : denF cfg_law (defScope s_law) (defBody s_law) = some m_law := by kernel_rfl
theorem sc_law : FnScope cfg_law.N ["_law_script"] (defScope s_law) := ⟨rfl, rfl, rfl, by decide +kernel, rfl, by decide +kernel, by decide +kernel⟩
def d__law_box : He.DefD := ⟨("_law_box", none), "_law_box", "_law_box", defArgs s__law_box, defBody s__law_box, defScope s__law_box, [], []⟩
def d__law_take : He.DefD := ⟨("_law_take", none), "_law_take", "_law_take", defArgs s__law_take, defBody s__law_take, defScope s__law_take, [], []⟩
def d__law_release : He.DefD := ⟨("_law_release", none), "_law_release", "_law_release", defArgs s__law_release, defBody s__law_release, defScope s__law_release, [], []⟩
def d_is_integer : He.DefD := ⟨("is_integer", none), "is_integer", "is_integer", defArgs s_is_integer, defBody s_is_integer, defScope s_is_integer, [], []⟩
def d_is_release : He.DefD := ⟨("is_release", none), "is_release", "is_release", defArgs s_is_release, defBody s_is_release, defScope s_is_release, [], []⟩
def d_release_text : He.DefD := ⟨("release_text", none), "release_text", "release_text", defArgs s_release_text, defBody s_release_text, defScope s_release_text, [], []⟩
def d_number_in : He.DefD := ⟨("number_in", none), "number_in", "number_in", defArgs s_number_in, defBody s_number_in, defScope s_number_in, [], []⟩
def d_release_in : He.DefD := ⟨("release_in", none), "release_in", "release_in", defArgs s_release_in, defBody s_release_in, defScope s_release_in, [], []⟩
def d_read_release : He.DefD := ⟨("read_release", none), "read_release", "read_release", defArgs s_read_release, defBody s_read_release, defScope s_read_release, [], []⟩
def d__law_is_number : He.DefD := ⟨("_law_is_number", none), "_law_is_number", "_law_is_number", defArgs s__law_is_number, defBody s__law_is_number, defScope s__law_is_number, [], []⟩
def d__law_is : He.DefD := ⟨("_law_is", none), "_law_is", "_law_is", defArgs s__law_is, defBody s__law_is, defScope s__law_is, [], []⟩
def d__law_pick : He.DefD := ⟨("_law_pick", none), "_law_pick", "_law_pick", defArgs s__law_pick, defBody s__law_pick, defScope s__law_pick, [], []⟩
def d__law_any : He.DefD := ⟨("_law_any", none), "_law_any", "_law_any", defArgs s__law_any, defBody s__law_any, defScope s__law_any, [], []⟩
def d_law : He.DefD := ⟨("law", none), "law", "law", defArgs s_law, defBody s_law, defScope s_law, [], []⟩
def fn : List He.DefD := [d__law_box, d__law_take, d__law_release, d_is_integer, d_is_release, d_release_text, d_number_in, d_release_in, d_read_release, d__law_is_number, d__law_is, d__law_pick, d__law_any, d_law]
def fa : List He.Fa := [.glo "_law_box", .glo "_law_take", .glo "_law_release", .glo "is_integer", .glo "is_release", .glo "release_text", .glo "number_in", .glo "release_in", .glo "read_release", .glo "_law_is_number", .glo "_law_is", .glo "_law_pick", .glo "_law_any", .glo "law", .free "len", .free "abs", .free "int", .free "isinstance", .free "bool", .free "tuple", .free "all", .free "str", .free "range", .free "list", .free "repr", .free "max", .free "min", .int "MOST_DIGITS" 3, .str "DIGITS" "0123456789"]
section
variable {P : Program} {w : World} {K : PySem.W.Frag} {h : Heap} {mg : Str → Option Value} {base : Heap} {ca : Str → Addr}
theorem fo__law_box (X : K.In h) (G : h.Ns mainGlobals mg) (c : He.SaysD fa fn K) {f : Addr} {fd : FuncData} (F : FunD K d__law_box.name d__law_box.qual d__law_box.params d__law_box.body d__law_box.scope (d__law_box.dvs K) (d__law_box.kws K) f fd) : FnR false P w K mg base 1 f fd ["_law_script", "_law_k"] (spF K ca 2 sem__law_box) := by
  refine def_ok (cfg := cfg__law_box) (lvl := 0) F sc__law_box ⟨sc__law_box.nd, ?_, ?_, ?_⟩ den__law_box
  · intro E he; cases he
  · intro p hp
    cases hp
  · intro x hx
    rcases List.mem_cons.mp hx with rfl | hx
    · exact He.free_ok X G (c.fact 14 (f := .free "len") rfl)
    rcases List.mem_cons.mp hx with rfl | hx
    · exact He.free_ok X G (c.fact 15 (f := .free "abs") rfl)
    rcases List.mem_cons.mp hx with rfl | hx
    · exact He.free_ok X G (c.fact 16 (f := .free "int") rfl)
    cases hx
theorem kn__law_box (X : K.In h) (G : h.Ns mainGlobals mg) (c : He.SaysD fa fn K) : FnKn false P w K mg base ca 1 E__law_box := by
  obtain ⟨fd, F⟩ := c.def_ 0 (d := d__law_box) rfl
  refine ⟨He.fAd K ("_law_box", none), fd, 1, Nat.le_refl _, He.glo_ok X G (c.fact 0 (f := .glo "_law_box") rfl), F.kp, fo__law_box X G c F, fun s hs => ?_⟩
  rcases List.mem_cons.mp hs with rfl | hs
  · exact shape_n F fun _ _ _ _ _ _ us ws h1 h2 => match us, ws, h1, h2 with | [_, _], [], _, _ => rfl
  cases hs
theorem fo__law_take (X : K.In h) (G : h.Ns mainGlobals mg) (c : He.SaysD fa fn K) {f : Addr} {fd : FuncData} (F : FunD K d__law_take.name d__law_take.qual d__law_take.params d__law_take.body d__law_take.scope (d__law_take.dvs K) (d__law_take.kws K) f fd) : FnR false P w K mg base 1 f fd ["_law_box_here", "_law_many"] (spF K ca 2 sem__law_take) := by
  refine def_ok (cfg := cfg__law_take) (lvl := 0) F sc__law_take ⟨sc__law_take.nd, ?_, ?_, ?_⟩ den__law_take
  · intro E he; cases he
  · intro p hp
    cases hp
  · intro x hx
    rcases List.mem_cons.mp hx with rfl | hx
    · exact He.free_ok X G (c.fact 16 (f := .free "int") rfl)
    cases hx
theorem kn__law_take (X : K.In h) (G : h.Ns mainGlobals mg) (c : He.SaysD fa fn K) : FnKn false P w K mg base ca 1 E__law_take := by
  obtain ⟨fd, F⟩ := c.def_ 1 (d := d__law_take) rfl
  refine ⟨He.fAd K ("_law_take", none), fd, 1, Nat.le_refl _, He.glo_ok X G (c.fact 1 (f := .glo "_law_take") rfl), F.kp, fo__law_take X G c F, fun s hs => ?_⟩
  rcases List.mem_cons.mp hs with rfl | hs
  · exact shape_n F fun _ _ _ _ _ _ us ws h1 h2 => match us, ws, h1, h2 with | [_, _], [], _, _ => rfl
  cases hs
theorem fo__law_release (X : K.In h) (G : h.Ns mainGlobals mg) (c : He.SaysD fa fn K) {f : Addr} {fd : FuncData} (F : FunD K d__law_release.name d__law_release.qual d__law_release.params d__law_release.body d__law_release.scope (d__law_release.dvs K) (d__law_release.kws K) f fd) : FnR false P w K mg base 2 f fd ["_law_box_here"] (spF K ca 1 sem__law_release) := by
  refine def_ok (cfg := cfg__law_release) (lvl := 1) F sc__law_release ⟨sc__law_release.nd, ?_, ?_, ?_⟩ den__law_release
  · intro E he
    rcases List.mem_cons.mp he with rfl | he
    · exact (kn__law_take X G c).mono (by omega)
    · cases he
  · intro p hp
    cases hp
  · intro x hx
    cases hx
theorem kn__law_release (X : K.In h) (G : h.Ns mainGlobals mg) (c : He.SaysD fa fn K) : FnKn false P w K mg base ca 2 E__law_release := by
  obtain ⟨fd, F⟩ := c.def_ 2 (d := d__law_release) rfl
  refine ⟨He.fAd K ("_law_release", none), fd, 2, Nat.le_refl _, He.glo_ok X G (c.fact 2 (f := .glo "_law_release") rfl), F.kp, fo__law_release X G c F, fun s hs => ?_⟩
  rcases List.mem_cons.mp hs with rfl | hs
  · exact shape_n F fun _ _ _ _ _ _ us ws h1 h2 => match us, ws, h1, h2 with | [_], [], _, _ => rfl
  cases hs
theorem fo_is_integer (X : K.In h) (G : h.Ns mainGlobals mg) (c : He.SaysD fa fn K) {f : Addr} {fd : FuncData} (F : FunD K d_is_integer.name d_is_integer.qual d_is_integer.params d_is_integer.body d_is_integer.scope (d_is_integer.dvs K) (d_is_integer.kws K) f fd) : FnR false P w K mg base 1 f fd ["value"] (spF K ca 1 sem_is_integer) := by
  refine def_ok (cfg := cfg_is_integer) (lvl := 0) F sc_is_integer ⟨sc_is_integer.nd, ?_, ?_, ?_⟩ den_is_integer
  · intro E he; cases he
  · intro p hp
    cases hp
  · intro x hx
    rcases List.mem_cons.mp hx with rfl | hx
    · exact He.free_ok X G (c.fact 17 (f := .free "isinstance") rfl)
    rcases List.mem_cons.mp hx with rfl | hx
    · exact He.free_ok X G (c.fact 16 (f := .free "int") rfl)
    rcases List.mem_cons.mp hx with rfl | hx
    · exact He.free_ok X G (c.fact 18 (f := .free "bool") rfl)
    cases hx
theorem kn_is_integer (X : K.In h) (G : h.Ns mainGlobals mg) (c : He.SaysD fa fn K) : FnKn false P w K mg base ca 1 E_is_integer := by
  obtain ⟨fd, F⟩ := c.def_ 3 (d := d_is_integer) rfl
  refine ⟨He.fAd K ("is_integer", none), fd, 1, Nat.le_refl _, He.glo_ok X G (c.fact 3 (f := .glo "is_integer") rfl), F.kp, fo_is_integer X G c F, fun s hs => ?_⟩
  rcases List.mem_cons.mp hs with rfl | hs
  · exact shape_n F fun _ _ _ _ _ _ us ws h1 h2 => match us, ws, h1, h2 with | [_], [], _, _ => rfl
  cases hs
theorem fo_is_release (X : K.In h) (G : h.Ns mainGlobals mg) (c : He.SaysD fa fn K) {f : Addr} {fd : FuncData} (F : FunD K d_is_release.name d_is_release.qual d_is_release.params d_is_release.body d_is_release.scope (d_is_release.dvs K) (d_is_release.kws K) f fd) : FnR false P w K mg base 2 f fd ["value"] (spF K ca 1 sem_is_release) := by
  refine def_ok (cfg := cfg_is_release) (lvl := 1) F sc_is_release ⟨sc_is_release.nd, ?_, ?_, ?_⟩ den_is_release
  · intro E he
    rcases List.mem_cons.mp he with rfl | he
    · exact (kn_is_integer X G c).mono (by omega)
    · cases he
  · intro p hp
    cases hp
  · intro x hx
    rcases List.mem_cons.mp hx with rfl | hx
    · exact He.free_ok X G (c.fact 17 (f := .free "isinstance") rfl)
    rcases List.mem_cons.mp hx with rfl | hx
    · exact He.free_ok X G (c.fact 19 (f := .free "tuple") rfl)
    rcases List.mem_cons.mp hx with rfl | hx
    · exact He.free_ok X G (c.fact 14 (f := .free "len") rfl)
    rcases List.mem_cons.mp hx with rfl | hx
    · exact He.free_ok X G (c.fact 20 (f := .free "all") rfl)
    cases hx
theorem kn_is_release (X : K.In h) (G : h.Ns mainGlobals mg) (c : He.SaysD fa fn K) : FnKn false P w K mg base ca 2 E_is_release := by
  obtain ⟨fd, F⟩ := c.def_ 4 (d := d_is_release) rfl
  refine ⟨He.fAd K ("is_release", none), fd, 2, Nat.le_refl _, He.glo_ok X G (c.fact 4 (f := .glo "is_release") rfl), F.kp, fo_is_release X G c F, fun s hs => ?_⟩
  rcases List.mem_cons.mp hs with rfl | hs
  · exact shape_n F fun _ _ _ _ _ _ us ws h1 h2 => match us, ws, h1, h2 with | [_], [], _, _ => rfl
  rcases List.mem_cons.mp hs with rfl | hs
  · exact shape_n F fun _ _ _ _ _ _ us ws h1 h2 => match us, ws, h1, h2 with | [], [_], _, _ => rfl
  cases hs
theorem fo_release_text (X : K.In h) (G : h.Ns mainGlobals mg) (c : He.SaysD fa fn K) {f : Addr} {fd : FuncData} (F : FunD K d_release_text.name d_release_text.qual d_release_text.params d_release_text.body d_release_text.scope (d_release_text.dvs K) (d_release_text.kws K) f fd) : FnR false P w K mg base 1 f fd ["release"] (spF K ca 1 sem_release_text) := by
  refine def_ok (cfg := cfg_release_text) (lvl := 0) F sc_release_text ⟨sc_release_text.nd, ?_, ?_, ?_⟩ den_release_text
  · intro E he; cases he
  · intro p hp
    cases hp
  · intro x hx
    cases hx
theorem kn_release_text (X : K.In h) (G : h.Ns mainGlobals mg) (c : He.SaysD fa fn K) : FnKn false P w K mg base ca 1 E_release_text := by
  obtain ⟨fd, F⟩ := c.def_ 5 (d := d_release_text) rfl
  refine ⟨He.fAd K ("release_text", none), fd, 1, Nat.le_refl _, He.glo_ok X G (c.fact 5 (f := .glo "release_text") rfl), F.kp, fo_release_text X G c F, fun s hs => ?_⟩
  rcases List.mem_cons.mp hs with rfl | hs
  · exact shape_n F fun _ _ _ _ _ _ us ws h1 h2 => match us, ws, h1, h2 with | [_], [], _, _ => rfl
  rcases List.mem_cons.mp hs with rfl | hs
  · exact shape_n F fun _ _ _ _ _ _ us ws h1 h2 => match us, ws, h1, h2 with | [], [_], _, _ => rfl
  cases hs
theorem fo_number_in (X : K.In h) (G : h.Ns mainGlobals mg) (c : He.SaysD fa fn K) {f : Addr} {fd : FuncData} (F : FunD K d_number_in.name d_number_in.qual d_number_in.params d_number_in.body d_number_in.scope (d_number_in.dvs K) (d_number_in.kws K) f fd) : FnR false P w K mg base 1 f fd ["text"] (spF K ca 1 sem_number_in) := by
  refine def_ok (cfg := cfg_number_in) (lvl := 0) F sc_number_in ⟨sc_number_in.nd, ?_, ?_, ?_⟩ den_number_in
  · intro E he; cases he
  · intro p hp
    rcases List.mem_cons.mp hp with rfl | hp
    · obtain ⟨t, ht⟩ := He.int_ok X G (c.fact 27 (f := .int "MOST_DIGITS" 3) rfl)
      exact ⟨_, .int 3, ht, ⟨t, rfl⟩, fun _ => rfl⟩
    rcases List.mem_cons.mp hp with rfl | hp
    · obtain ⟨t, ht⟩ := He.str_ok X G (c.fact 28 (f := .str "DIGITS" "0123456789") rfl)
      exact ⟨_, .str "0123456789", ht, ⟨t, rfl⟩, fun _ => rfl⟩
    cases hp
  · intro x hx
    rcases List.mem_cons.mp hx with rfl | hx
    · exact He.free_ok X G (c.fact 14 (f := .free "len") rfl)
    rcases List.mem_cons.mp hx with rfl | hx
    · exact He.free_ok X G (c.fact 20 (f := .free "all") rfl)
    rcases List.mem_cons.mp hx with rfl | hx
    · exact He.free_ok X G (c.fact 16 (f := .free "int") rfl)
    cases hx
theorem kn_number_in (X : K.In h) (G : h.Ns mainGlobals mg) (c : He.SaysD fa fn K) : FnKn false P w K mg base ca 1 E_number_in := by
  obtain ⟨fd, F⟩ := c.def_ 6 (d := d_number_in) rfl
  refine ⟨He.fAd K ("number_in", none), fd, 1, Nat.le_refl _, He.glo_ok X G (c.fact 6 (f := .glo "number_in") rfl), F.kp, fo_number_in X G c F, fun s hs => ?_⟩
  rcases List.mem_cons.mp hs with rfl | hs
  · exact shape_n F fun _ _ _ _ _ _ us ws h1 h2 => match us, ws, h1, h2 with | [_], [], _, _ => rfl
  cases hs
theorem fo_release_in (X : K.In h) (G : h.Ns mainGlobals mg) (c : He.SaysD fa fn K) {f : Addr} {fd : FuncData} (F : FunD K d_release_in.name d_release_in.qual d_release_in.params d_release_in.body d_release_in.scope (d_release_in.dvs K) (d_release_in.kws K) f fd) : FnR false P w K mg base 3 f fd ["text"] (spF K ca 1 sem_release_in) := by
  refine def_ok (cfg := cfg_release_in) (lvl := 2) F sc_release_in ⟨sc_release_in.nd, ?_, ?_, ?_⟩ den_release_in
  · intro E he
    rcases List.mem_cons.mp he with rfl | he
    · exact (kn_number_in X G c).mono (by omega)
    rcases List.mem_cons.mp he with rfl | he
    · exact (kn_is_release X G c).mono (by omega)
    · cases he
  · intro p hp
    cases hp
  · intro x hx
    rcases List.mem_cons.mp hx with rfl | hx
    · exact He.free_ok X G (c.fact 19 (f := .free "tuple") rfl)
    cases hx
theorem kn_release_in (X : K.In h) (G : h.Ns mainGlobals mg) (c : He.SaysD fa fn K) : FnKn false P w K mg base ca 3 E_release_in := by
  obtain ⟨fd, F⟩ := c.def_ 7 (d := d_release_in) rfl
  refine ⟨He.fAd K ("release_in", none), fd, 3, Nat.le_refl _, He.glo_ok X G (c.fact 7 (f := .glo "release_in") rfl), F.kp, fo_release_in X G c F, fun s hs => ?_⟩
  rcases List.mem_cons.mp hs with rfl | hs
  · exact shape_n F fun _ _ _ _ _ _ us ws h1 h2 => match us, ws, h1, h2 with | [_], [], _, _ => rfl
  cases hs
theorem fo_read_release (X : K.In h) (G : h.Ns mainGlobals mg) (c : He.SaysD fa fn K) {f : Addr} {fd : FuncData} (F : FunD K d_read_release.name d_read_release.qual d_read_release.params d_read_release.body d_read_release.scope (d_read_release.dvs K) (d_read_release.kws K) f fd) : FnR false P w K mg base 4 f fd ["text"] (spF K ca 1 sem_read_release) := by
  refine def_ok (cfg := cfg_read_release) (lvl := 3) F sc_read_release ⟨sc_read_release.nd, ?_, ?_, ?_⟩ den_read_release
  · intro E he
    rcases List.mem_cons.mp he with rfl | he
    · exact (kn_release_in X G c).mono (by omega)
    · cases he
  · intro p hp
    cases hp
  · intro x hx
    rcases List.mem_cons.mp hx with rfl | hx
    · exact He.free_ok X G (c.fact 17 (f := .free "isinstance") rfl)
    rcases List.mem_cons.mp hx with rfl | hx
    · exact He.free_ok X G (c.fact 21 (f := .free "str") rfl)
    cases hx
theorem kn_read_release (X : K.In h) (G : h.Ns mainGlobals mg) (c : He.SaysD fa fn K) : FnKn false P w K mg base ca 4 E_read_release := by
  obtain ⟨fd, F⟩ := c.def_ 8 (d := d_read_release) rfl
  refine ⟨He.fAd K ("read_release", none), fd, 4, Nat.le_refl _, He.glo_ok X G (c.fact 8 (f := .glo "read_release") rfl), F.kp, fo_read_release X G c F, fun s hs => ?_⟩
  rcases List.mem_cons.mp hs with rfl | hs
  · exact shape_n F fun _ _ _ _ _ _ us ws h1 h2 => match us, ws, h1, h2 with | [_], [], _, _ => rfl
  rcases List.mem_cons.mp hs with rfl | hs
  · exact shape_n F fun _ _ _ _ _ _ us ws h1 h2 => match us, ws, h1, h2 with | [], [_], _, _ => rfl
  cases hs
theorem fo__law_is_number (X : K.In h) (G : h.Ns mainGlobals mg) (c : He.SaysD fa fn K) {f : Addr} {fd : FuncData} (F : FunD K d__law_is_number.name d__law_is_number.qual d__law_is_number.params d__law_is_number.body d__law_is_number.scope (d__law_is_number.dvs K) (d__law_is_number.kws K) f fd) : FnR false P w K mg base 1 f fd ["_law_thing"] (spF K ca 1 sem__law_is_number) := by
  refine def_ok (cfg := cfg__law_is_number) (lvl := 0) F sc__law_is_number ⟨sc__law_is_number.nd, ?_, ?_, ?_⟩ den__law_is_number
  · intro E he; cases he
  · intro p hp
    cases hp
  · intro x hx
    rcases List.mem_cons.mp hx with rfl | hx
    · exact He.free_ok X G (c.fact 17 (f := .free "isinstance") rfl)
    rcases List.mem_cons.mp hx with rfl | hx
    · exact He.free_ok X G (c.fact 16 (f := .free "int") rfl)
    rcases List.mem_cons.mp hx with rfl | hx
    · exact He.free_ok X G (c.fact 18 (f := .free "bool") rfl)
    cases hx
theorem kn__law_is_number (X : K.In h) (G : h.Ns mainGlobals mg) (c : He.SaysD fa fn K) : FnKn false P w K mg base ca 1 E__law_is_number := by
  obtain ⟨fd, F⟩ := c.def_ 9 (d := d__law_is_number) rfl
  refine ⟨He.fAd K ("_law_is_number", none), fd, 1, Nat.le_refl _, He.glo_ok X G (c.fact 9 (f := .glo "_law_is_number") rfl), F.kp, fo__law_is_number X G c F, fun s hs => ?_⟩
  rcases List.mem_cons.mp hs with rfl | hs
  · exact shape_n F fun _ _ _ _ _ _ us ws h1 h2 => match us, ws, h1, h2 with | [_], [], _, _ => rfl
  cases hs
theorem fo__law_is (X : K.In h) (G : h.Ns mainGlobals mg) (c : He.SaysD fa fn K) {f : Addr} {fd : FuncData} (F : FunD K d__law_is.name d__law_is.qual d__law_is.params d__law_is.body d__law_is.scope (d__law_is.dvs K) (d__law_is.kws K) f fd) : FnR false P w K mg base 2 f fd ["_law_thing"] (spF K ca 1 sem__law_is) := by
  refine def_ok (cfg := cfg__law_is) (lvl := 1) F sc__law_is ⟨sc__law_is.nd, ?_, ?_, ?_⟩ den__law_is
  · intro E he
    rcases List.mem_cons.mp he with rfl | he
    · exact (kn__law_is_number X G c).mono (by omega)
    · cases he
  · intro p hp
    cases hp
  · intro x hx
    rcases List.mem_cons.mp hx with rfl | hx
    · exact He.free_ok X G (c.fact 17 (f := .free "isinstance") rfl)
    rcases List.mem_cons.mp hx with rfl | hx
    · exact He.free_ok X G (c.fact 19 (f := .free "tuple") rfl)
    rcases List.mem_cons.mp hx with rfl | hx
    · exact He.free_ok X G (c.fact 14 (f := .free "len") rfl)
    cases hx
theorem kn__law_is (X : K.In h) (G : h.Ns mainGlobals mg) (c : He.SaysD fa fn K) : FnKn false P w K mg base ca 2 E__law_is := by
  obtain ⟨fd, F⟩ := c.def_ 10 (d := d__law_is) rfl
  refine ⟨He.fAd K ("_law_is", none), fd, 2, Nat.le_refl _, He.glo_ok X G (c.fact 10 (f := .glo "_law_is") rfl), F.kp, fo__law_is X G c F, fun s hs => ?_⟩
  rcases List.mem_cons.mp hs with rfl | hs
  · exact shape_n F fun _ _ _ _ _ _ us ws h1 h2 => match us, ws, h1, h2 with | [_], [], _, _ => rfl
  cases hs
theorem fo__law_pick (X : K.In h) (G : h.Ns mainGlobals mg) (c : He.SaysD fa fn K) {f : Addr} {fd : FuncData} (F : FunD K d__law_pick.name d__law_pick.qual d__law_pick.params d__law_pick.body d__law_pick.scope (d__law_pick.dvs K) (d__law_pick.kws K) f fd) : FnR false P w K mg base 2 f fd ["_law_box_here", "_law_some"] (spF K ca 2 sem__law_pick) := by
  refine def_ok (cfg := cfg__law_pick) (lvl := 1) F sc__law_pick ⟨sc__law_pick.nd, ?_, ?_, ?_⟩ den__law_pick
  · intro E he
    rcases List.mem_cons.mp he with rfl | he
    · exact (kn__law_take X G c).mono (by omega)
    · cases he
  · intro p hp
    cases hp
  · intro x hx
    rcases List.mem_cons.mp hx with rfl | hx
    · exact He.free_ok X G (c.fact 14 (f := .free "len") rfl)
    cases hx
theorem kn__law_pick (X : K.In h) (G : h.Ns mainGlobals mg) (c : He.SaysD fa fn K) : FnKn false P w K mg base ca 2 E__law_pick := by
  obtain ⟨fd, F⟩ := c.def_ 11 (d := d__law_pick) rfl
  refine ⟨He.fAd K ("_law_pick", none), fd, 2, Nat.le_refl _, He.glo_ok X G (c.fact 11 (f := .glo "_law_pick") rfl), F.kp, fo__law_pick X G c F, fun s hs => ?_⟩
  rcases List.mem_cons.mp hs with rfl | hs
  · exact shape_n F fun _ _ _ _ _ _ us ws h1 h2 => match us, ws, h1, h2 with | [_, _], [], _, _ => rfl
  cases hs
theorem fo__law_any (X : K.In h) (G : h.Ns mainGlobals mg) (c : He.SaysD fa fn K) {f : Addr} {fd : FuncData} (F : FunD K d__law_any.name d__law_any.qual d__law_any.params d__law_any.body d__law_any.scope (d__law_any.dvs K) (d__law_any.kws K) f fd) (hm : mg "_law_any" = some (.ref f)) : ∀ n : Nat, FnR false P w K mg base (2 + n) f fd ["_law_box_here", "_law_deep"] (spF K ca 2 (sem__law_any n))
  | 0 => FnR.none fun vs H Q E => badF_sp vs H Q E
  | n + 1 => by
    refine def_ok (cfg := cfg__law_any (sem__law_any n)) (lvl := 2 + n) F (sc__law_any (sem__law_any n)) ⟨(sc__law_any (sem__law_any n)).nd, ?_, ?_, ?_⟩ (den__law_any (sem__law_any n))
    · intro E he
      rcases List.mem_cons.mp he with rfl | he
      · exact (kn__law_take X G c).mono (by omega)
      rcases List.mem_cons.mp he with rfl | he
      · exact (kn__law_pick X G c).mono (by omega)
      rcases List.mem_cons.mp he with rfl | he
      · exact ⟨f, fd, 2 + n, Nat.le_refl _, hm, F.kp, fo__law_any X G c F hm n, fun s hs => by
        rcases List.mem_cons.mp hs with rfl | hs
        · exact shape_n F fun _ _ _ _ _ _ us ws h1 h2 => match us, ws, h1, h2 with | [_, _], [], _, _ => rfl
        cases hs⟩
      · cases he
    · intro p hp
      cases hp
    · intro x hx
      rcases List.mem_cons.mp hx with rfl | hx
      · exact He.free_ok X G (c.fact 22 (f := .free "range") rfl)
      rcases List.mem_cons.mp hx with rfl | hx
      · exact He.free_ok X G (c.fact 19 (f := .free "tuple") rfl)
      cases hx
theorem kn__law_any (X : K.In h) (G : h.Ns mainGlobals mg) (c : He.SaysD fa fn K) : FnKn false P w K mg base ca 6 (E__law_any (sem__law_any 4)) := by
  obtain ⟨fd, F⟩ := c.def_ 12 (d := d__law_any) rfl
  refine ⟨He.fAd K ("_law_any", none), fd, 6, Nat.le_refl _, He.glo_ok X G (c.fact 12 (f := .glo "_law_any") rfl), F.kp, (fo__law_any X G c F (He.glo_ok X G (c.fact 12 (f := .glo "_law_any") rfl)) 4), fun s hs => ?_⟩
  rcases List.mem_cons.mp hs with rfl | hs
  · exact shape_n F fun _ _ _ _ _ _ us ws h1 h2 => match us, ws, h1, h2 with | [_, _], [], _, _ => rfl
  cases hs
theorem fo_law (X : K.In h) (G : h.Ns mainGlobals mg) (c : He.SaysD fa fn K) {f : Addr} {fd : FuncData} (F : FunD K d_law.name d_law.qual d_law.params d_law.body d_law.scope (d_law.dvs K) (d_law.kws K) f fd) : FnR true P w K mg base 7 f fd ["_law_script"] (spF K ca 1 sem_law) := by
  refine def_ok (cfg := cfg_law) (lvl := 6) F sc_law ⟨sc_law.nd, ?_, ?_, ?_⟩ den_law
  · intro E he
    rcases List.mem_cons.mp he with rfl | he
    · exact (kn__law_box X G c).weak (by omega)
    rcases List.mem_cons.mp he with rfl | he
    · exact (kn__law_release X G c).weak (by omega)
    rcases List.mem_cons.mp he with rfl | he
    · exact (kn_is_release X G c).weak (by omega)
    rcases List.mem_cons.mp he with rfl | he
    · exact (kn_release_text X G c).weak (by omega)
    rcases List.mem_cons.mp he with rfl | he
    · exact (kn_read_release X G c).weak (by omega)
    rcases List.mem_cons.mp he with rfl | he
    · exact (kn__law_is X G c).weak (by omega)
    rcases List.mem_cons.mp he with rfl | he
    · exact (kn__law_any X G c).weak (by omega)
    · cases he
  · intro p hp
    cases hp
  · intro x hx
    rcases List.mem_cons.mp hx with rfl | hx
    · exact He.free_ok X G (c.fact 23 (f := .free "list") rfl)
    rcases List.mem_cons.mp hx with rfl | hx
    · exact He.free_ok X G (c.fact 21 (f := .free "str") rfl)
    rcases List.mem_cons.mp hx with rfl | hx
    · exact He.free_ok X G (c.fact 24 (f := .free "repr") rfl)
    rcases List.mem_cons.mp hx with rfl | hx
    · exact He.free_ok X G (c.fact 22 (f := .free "range") rfl)
    rcases List.mem_cons.mp hx with rfl | hx
    · exact He.free_ok X G (c.fact 25 (f := .free "max") rfl)
    rcases List.mem_cons.mp hx with rfl | hx
    · exact He.free_ok X G (c.fact 26 (f := .free "min") rfl)
    rcases List.mem_cons.mp hx with rfl | hx
    · exact He.free_ok X G (c.fact 14 (f := .free "len") rfl)
    cases hx
theorem kn_law (X : K.In h) (G : h.Ns mainGlobals mg) (c : He.SaysD fa fn K) : FnKn true P w K mg base ca 7 E_law := by
  obtain ⟨fd, F⟩ := c.def_ 13 (d := d_law) rfl
  refine ⟨He.fAd K ("law", none), fd, 7, Nat.le_refl _, He.glo_ok X G (c.fact 13 (f := .glo "law") rfl), F.kp, fo_law X G c F, fun s hs => ?_⟩
  cases hs
end
abbrev R : PySem.W.OpenRow := PySem.W.OpenLaw.row PySem.Challenge.rw_quietbumps_k02_releases_and_their_texts
abbrev hk : PySem.W.Hook := He.hookD 4 fa fn
def ob (s : PySem.W.SharedT) : He.AlD := He.obsDG 4 fa fn (HandSHeadRun.getT s)
theorem ob_eq (s : PySem.W.SharedT) : ob s = hk.obs s.abs := He.obsDG_eq (HandSHeadRun.getT_eq s)
def others : List PySem.Str := ["__name__", "BumpError", "InvalidRelease", "DIGITS", "MOST_DIGITS", "is_integer", "number_in", "is_release", "release_text", "release_in", "read_release", "_law_box", "_law_take", "_law_pick", "_law_release", "_law_any", "_law_is_number", "_law_is"]
theorem run (w : World) : HandSHeadRun.RunEq R (PySem.W.view R.prog [21]) hk ob 3000 others w := by
  intro os
  kernel_rfl
theorem law_end {K : PySem.W.Frag} {h : Heap} {w : World} {mg : Str → Option Value} {f : Addr} (X : K.In h) (G : h.Ns mainGlobals mg) (hfa : mg ("law" : Str) = some (.ref f)) (c : He.SaysD fa fn K) :
    ∃ (K : PySem.W.Frag) (fd : FuncData) (sp : Sp), K.In h ∧ (∀ (s : Shared) (u : Value), BindsTo s fd ⟨[u], []⟩ [("_law_script", u)]) ∧
        (∀ (H : Hp) (a : Addr) (ns : List Int), ns.length ≤ 63 → Only H → SqL K H a (ns.map V.int) → sp [.ref a] H (fun v _ => v = .bl true) fun _ _ _ => False) ∧
        ∀ base : Heap, K.In base → base.Ns mainGlobals mg → FnR true PySem.Challenge.rw_quietbumps_k02_releases_and_their_texts.prog w K mg base 7 f fd ["_law_script"] sp := by
  obtain ⟨fd, F⟩ := c.def_ 13 (d := d_law) rfl
  have e := hfa.symm.trans (He.glo_ok X G (c.fact 13 (f := .glo "law") rfl))
  cases e
  have b := FunD.bindsA (ps := ["_law_script"]) F fun _ _ _ _ _ _ us hl => match us, hl with | [_], _ => rfl
  exact ⟨K, fd, spF K (fun _ => 0) 1 sem_law, X, fun s u => b s [u] rfl, fun H a ns hl _ hS => law_sp law_true H a ns hl hS, fun base _ _ => fo_law X G c F⟩
end K02
open PySem PySem.W PySem.Calls PyProof.Rows
theorem PySem.Challenge.cw_quietbumps_k02_releases_and_their_texts_holds : PySem.Challenge.rw_quietbumps_k02_releases_and_their_texts.Holds := by
  w_on; o_law
  refine HandSHeadRun.head_any (r := OpenLaw.row PySem.Challenge.rw_quietbumps_k02_releases_and_their_texts) (q := view (OpenLaw.row PySem.Challenge.rw_quietbumps_k02_releases_and_their_texts).prog [21]) (H := K02.hk) (ob := K02.ob) (M := 3000) (loose := K02.others) (d := HandSHeadRun.topDef (OpenLaw.row PySem.Challenge.rw_quietbumps_k02_releases_and_their_texts).prog 21) (kwd := []) K02.ob_eq
    (by kernel_rfl) (fun s => by kernel_rfl) K02.run (by kernel_rfl) (by kernel_rfl) (by kernel_rfl) (by rfl) (by first | assumption | decide +kernel) (by decide +kernel) ⟨rfl, rfl, rfl, rfl, rfl, by decide +kernel⟩ ?hw ?hc
  case hw => w_witness2
  case hc =>
    refine QB.walk_ofW (l := PySem.Challenge.rw_quietbumps_k02_releases_and_their_texts) (n := 63) (k := 7) (x := "_law_script") rfl (by decide) (by kernel_rfl) ⟨rfl, by decide, by decide⟩ ?F
    intro w mg fa h Y G hmg0
    obtain ⟨K, KX, c⟩ := Y
    have hmg : mg ("law" : PySem.Str) = some (.ref fa) := by
      have e : (HandSHeadRun.topDef (OpenLaw.row PySem.Challenge.rw_quietbumps_k02_releases_and_their_texts).prog 21).name = ("law" : PySem.Str) := by kernel_rfl
      rw [← e]
      exact hmg0
    exact K02.law_end KX G hmg c
