import PyProof.Rows.All
import Wide.All
import OpenK.AllK
import Wide.FinOn
import HandS.ForMost
import HandS.Exc
import HandS.TupLe
import HandS.Deep
import HandS.Style
import HandS.Flow
import HandS.SortInts
import HandS.Iter
import HandS.Zip
import HandS.ExcOwn
import HandS.WordsExc
import HandS.Defaults
import HandS.Comp
import HandS.IsInst
import HandS.Text
import HandS.FStr
import HandS.RaiseMore
import HandS.HeadHook2
import KE.KExcIs
import HandS.ExcField
import HandS.TryOnly
import HandS.TryMany
import HandS.TupAny
import HandS.Star
import HandS.More
import HandS.MakeKw
import HandS.ClsMeth
import HandS.Property
import KE.KCallOwn
import KE.KFmtOwn
import HandS.SlotsOwn
import KE.GoesEnum
import HandS.Dict
import KE.KStateDown
import Lean
import HandS.Ends
import HandS.Head0
import HandS.Head1
import HandS.Head2
import HandS.HeadEnd
import HandS.HeadHook1
import HandS.HeadNt
import PySem.Challenge.RW_quietbumps_k12_whole_ranges_told_release
set_option Elab.async false
set_option linter.all false
set_option maxRecDepth 100000
set_option maxHeartbeats 0
/-! Plain values over the heap: a value is a tree; lists (and objects) that a def may change stand in its slots. -/
namespace QB
open PySem L2

/-- a plain value -/
inductive PV where
  | non | bl (b : Bool) | int (i : Int) | str (x : Str)
  | tup (xs : List PV) | lst (xs : List PV) | rdl (xs : List PV)
  | ins (c : Str) (ks : List Str) (xs : List PV)
  | dct (ks : List Key) (xs : List PV)
  | cls (c : Str)
  deriving Inhabited

/-- an exception: its class by name, its fields -/
structure PX where
  cls : Str
  ks : List Str
  xs : List PV
  deriving Inhabited
/-- where the classes stand; the exceptions that are handled -/
structure CA where
  cls : Str → Addr
  xp : Addr → Option (Value × Option Addr)
instance : CoeFun CA fun _ => Str → Addr := ⟨CA.cls⟩

/-- an object that may change -/
inductive MO where
  | lst (xs : List PV)
  | ins (c : Str) (ks : List Str) (xs : List PV)
  | dct (ks : List Key) (xs : List PV)
  deriving Inhabited
def MO.pv : MO → PV
  | .lst xs => .lst xs
  | .ins c ks xs => .ins c ks xs
  | .dct ks xs => .dct ks xs

inductive Slot where
  | val (p : PV) | own (o : MO) | par (o : MO) | exn (x : PX)
  deriving Inhabited
def Slot.chg : Slot → Bool
  | .own _ => true
  | .par _ => true
  | _ => false
def Slot.pin : Slot → Bool
  | .par _ => true
  | _ => false
def Slot.pv : Slot → PV
  | .val p => p
  | .own o => o.pv
  | .par o => o.pv
  | .exn _ => .non
def Slot.pvo : Slot → Option PV
  | .val p => some p
  | .own o => some o.pv
  | .par o => some o.pv
  | .exn _ => none

abbrev En := List (Option Slot)
inductive RV where
  | val (p : PV) | own (o : MO)
  deriving Inhabited
def RV.pv : RV → PV
  | .val p => p
  | .own o => o.pv
def RV.slot : RV → Slot
  | .val p => .val p
  | .own o => .own o

section
variable (K : PySem.W.Frag) (ca : CA)
mutual
def Rep (G : Hp) : PV → V → Prop
  | .non, v => v = .non
  | .bl b, v => v = .bl b
  | .int i, v => v = .int i
  | .str x, v => v = .str x
  | .tup xs, v => ∃ a vs, v = .ref a ∧ SqT K G a vs ∧ Reps G xs vs
  | .lst xs, v => ∃ a vs, v = .ref a ∧ G a = some (.lst vs) ∧ Reps G xs vs
  | .rdl xs, v => ∃ a vs, v = .ref a ∧ SqL K G a vs ∧ Reps G xs vs
  | .ins c ks xs, v => ∃ a dx fs, v = .ref a ∧ G a = some (.ins (ca c) dx fs) ∧ fs.map (·.1) = ks ∧ Reps G xs (fs.map (·.2))
  | .dct ks xs, v => ∃ a kvs, v = .ref a ∧ G a = some (.dK kvs) ∧ kvs.map (·.1) = ks ∧ Reps G xs (kvs.map (·.2))
  | .cls c, v => v = .ref (ca c)
def Reps (G : Hp) : List PV → List V → Prop
  | [], vs => vs = []
  | x :: xs, vs => ∃ v r, vs = v :: r ∧ Rep G x v ∧ Reps G xs r
end

/-- the object at a is o; its parts stand in G -/
def MRep (G H : Hp) (a : Addr) : MO → Prop
  | .lst xs => ∃ vs, H a = some (.lst vs) ∧ Reps K ca G xs vs
  | .ins c ks xs => ∃ dx fs, H a = some (.ins (ca c) dx fs) ∧ fs.map (·.1) = ks ∧ Reps K ca G xs (fs.map (·.2))
  | .dct ks xs => ∃ kvs, H a = some (.dK kvs) ∧ kvs.map (·.1) = ks ∧ Reps K ca G xs (kvs.map (·.2))
/-- as Rep, the top itself may be hidden in G -/
def RepT (G H : Hp) : PV → V → Prop
  | .tup xs, v => ∃ a vs, v = .ref a ∧ SqT K G a vs ∧ Reps K ca G xs vs
  | .lst xs, v => ∃ a vs, v = .ref a ∧ H a = some (.lst vs) ∧ Reps K ca G xs vs
  | .rdl xs, v => ∃ a vs, v = .ref a ∧ SqL K G a vs ∧ Reps K ca G xs vs
  | .ins c ks xs, v => ∃ a dx fs, v = .ref a ∧ H a = some (.ins (ca c) dx fs) ∧ fs.map (·.1) = ks ∧ Reps K ca G xs (fs.map (·.2))
  | .dct ks xs, v => ∃ a kvs, v = .ref a ∧ H a = some (.dK kvs) ∧ kvs.map (·.1) = ks ∧ Reps K ca G xs (kvs.map (·.2))
  | .non, v => v = .non
  | .bl b, v => v = .bl b
  | .int i, v => v = .int i
  | .str x, v => v = .str x
  | .cls c, v => v = .ref (ca c)
/-- an exception, by its class and its dict -/
def XR (G : Hp) (x : PX) (cls : Value) (d : Option Addr) : Prop :=
  cls = .ref (ca x.cls) ∧ ((x.ks = [] ∧ x.xs = [] ∧ d = none) ∨ ∃ dd fs, d = some dd ∧ G dd = some (.xd fs) ∧ fs.map (·.1) = x.ks ∧ Reps K ca G x.xs (fs.map (·.2)))
/-- .. that is handled, by its object -/
def XSl (G : Hp) (x : PX) (v : V) : Prop := ∃ a cls d, v = .ref a ∧ ca.xp a = some (cls, d) ∧ XR K ca G x cls d
end

theorem Same.sqT {K : PySem.W.Frag} {H H' : Hp} {a : Addr} {xs : List V} (e : Same H H') (h : SqT K H a xs) : SqT K H' a xs := by
  rcases h with (h | ⟨o, h⟩) | h
  · exact .inl (.inl (e _ _ h))
  · exact .inl (.inr ⟨o, e _ _ h⟩)
  · exact .inr h

section
variable {K : PySem.W.Frag} {ca : CA} {G G' : Hp}
mutual
theorem Rep.mono (s : Same G G') : ∀ {p : PV} {v : V}, Rep K ca G p v → Rep K ca G' p v
  | .non, _, h => h
  | .bl _, _, h => h
  | .int _, _, h => h
  | .str _, _, h => h
  | .tup xs, v, h => by
    obtain ⟨a, vs, e, q, r⟩ := h
    exact ⟨a, vs, e, Same.sqT s q, Reps.mono s r⟩
  | .lst xs, v, h => by
    obtain ⟨a, vs, e, q, r⟩ := h
    exact ⟨a, vs, e, s _ _ q, Reps.mono s r⟩
  | .rdl xs, v, h => by
    obtain ⟨a, vs, e, q, r⟩ := h
    exact ⟨a, vs, e, Same.seq s q, Reps.mono s r⟩
  | .ins c ks xs, v, h => by
    obtain ⟨a, dx, fs, e, q, z, r⟩ := h
    exact ⟨a, dx, fs, e, s _ _ q, z, Reps.mono s r⟩
  | .dct ks xs, v, h => by
    obtain ⟨a, kvs, e, q, z, r⟩ := h
    exact ⟨a, kvs, e, s _ _ q, z, Reps.mono s r⟩
  | .cls _, _, h => h
theorem Reps.mono (s : Same G G') : ∀ {ps : List PV} {vs : List V}, Reps K ca G ps vs → Reps K ca G' ps vs
  | [], _, h => h
  | x :: xs, vs, h => by
    obtain ⟨v, r, e, h1, h2⟩ := h
    exact ⟨v, r, e, Rep.mono s h1, Reps.mono s h2⟩
end
theorem XR.mono (s : Same G G') {x : PX} {cls : Value} {d : Option Addr} (h : XR K ca G x cls d) : XR K ca G' x cls d := by
  obtain ⟨h1, h2 | ⟨dd, fs, e1, e2, e3, e4⟩⟩ := h
  · exact ⟨h1, .inl h2⟩
  · exact ⟨h1, .inr ⟨dd, fs, e1, s _ _ e2, e3, e4.mono s⟩⟩
theorem XSl.mono (s : Same G G') {x : PX} {v : V} (h : XSl K ca G x v) : XSl K ca G' x v := by
  obtain ⟨a, cls, d, e1, e2, e3⟩ := h
  exact ⟨a, cls, d, e1, e2, e3.mono s⟩
theorem Reps.length : ∀ {ps : List PV} {vs : List V}, Reps K ca G ps vs → vs.length = ps.length
  | [], _, h => by rw [show _ = [] from h]; rfl
  | x :: xs, vs, h => by
    obtain ⟨v, r, e, h1, h2⟩ := h
    rw [e, List.length_cons, List.length_cons, Reps.length h2]
theorem Reps.get : ∀ {ps : List PV} {vs : List V} {i : Nat} {p : PV}, Reps K ca G ps vs → ps[i]? = some p → ∃ v, vs[i]? = some v ∧ Rep K ca G p v
  | [], _, _, _, _, e => by simp at e
  | x :: xs, vs, 0, p, h, e => by
    obtain ⟨v, r, e1, h1, h2⟩ := h
    simp at e; subst e
    exact ⟨v, by rw [e1]; rfl, h1⟩
  | x :: xs, vs, i + 1, p, h, e => by
    obtain ⟨v, r, e1, h1, h2⟩ := h
    obtain ⟨w, q1, q2⟩ := Reps.get (i := i) h2 (by simpa using e)
    exact ⟨w, by rw [e1]; simpa using q1, q2⟩
theorem Reps.getV {ps : List PV} {vs : List V} {i : Nat} {v : V} (h : Reps K ca G ps vs) (e : vs[i]? = some v) : ∃ p, ps[i]? = some p ∧ Rep K ca G p v := by
  have hl := h.length
  have hi : i < ps.length := by
    have := (List.getElem?_eq_some_iff.mp e).1
    omega
  obtain ⟨w, e1, r⟩ := h.get (i := i) (p := ps[i]) (by simp [hi])
  rw [e] at e1; cases e1
  exact ⟨ps[i], by simp [hi], r⟩
theorem Reps.append : ∀ {ps qs : List PV} {vs ws : List V}, Reps K ca G ps vs → Reps K ca G qs ws → Reps K ca G (ps ++ qs) (vs ++ ws)
  | [], _, _, _, h, h' => by rw [show _ = [] from h]; exact h'
  | x :: xs, qs, vs, ws, h, h' => by
    obtain ⟨v, r, e, h1, h2⟩ := h
    subst e
    exact ⟨v, r ++ ws, rfl, h1, Reps.append h2 h'⟩
theorem Reps.one {p : PV} {v : V} (h : Rep K ca G p v) : Reps K ca G [p] [v] := ⟨v, [], rfl, h, rfl⟩
theorem Reps.cons {p : PV} {v : V} {ps : List PV} {vs : List V} (h : Rep K ca G p v) (hs : Reps K ca G ps vs) : Reps K ca G (p :: ps) (v :: vs) := ⟨v, vs, rfl, h, hs⟩
theorem Reps.set : ∀ {ps : List PV} {vs : List V} {i : Nat} {p : PV} {v : V}, Reps K ca G ps vs → Rep K ca G p v → Reps K ca G (ps.set i p) (vs.set i v)
  | [], _, _, _, _, h, _ => by rw [show _ = [] from h]; rfl
  | x :: xs, vs, 0, p, v, h, h' => by
    obtain ⟨w, r, e, h1, h2⟩ := h
    subst e
    exact ⟨v, r, rfl, h', h2⟩
  | x :: xs, vs, i + 1, p, v, h, h' => by
    obtain ⟨w, r, e, h1, h2⟩ := h
    subst e
    exact ⟨w, r.set i v, rfl, h1, Reps.set h2 h'⟩
theorem Reps.take : ∀ {ps : List PV} {vs : List V} (n : Nat), Reps K ca G ps vs → Reps K ca G (ps.take n) (vs.take n)
  | _, _, 0, _ => rfl
  | [], _, n + 1, h => by rw [show _ = [] from h]; rfl
  | x :: xs, vs, n + 1, h => by
    obtain ⟨w, r, e, h1, h2⟩ := h
    subst e
    exact ⟨w, r.take n, rfl, h1, Reps.take n h2⟩
theorem Reps.drop : ∀ {ps : List PV} {vs : List V} (n : Nat), Reps K ca G ps vs → Reps K ca G (ps.drop n) (vs.drop n)
  | _, _, 0, h => h
  | [], _, n + 1, h => by rw [show _ = [] from h]; rfl
  | x :: xs, vs, n + 1, h => by
    obtain ⟨w, r, e, h1, h2⟩ := h
    subst e
    exact Reps.drop n h2
theorem Rep.top {H : Hp} {p : PV} {v : V} (h : Rep K ca G p v) (s : Same G H) : RepT K ca G H p v := by
  cases p with
  | tup xs => exact h
  | lst xs => obtain ⟨a, vs, e, q, r⟩ := h; exact ⟨a, vs, e, s _ _ q, r⟩
  | rdl xs => exact h
  | ins c ks xs => obtain ⟨a, dx, fs, e, q, z, r⟩ := h; exact ⟨a, dx, fs, e, s _ _ q, z, r⟩
  | dct ks xs => obtain ⟨a, kvs, e, q, z, r⟩ := h; exact ⟨a, kvs, e, s _ _ q, z, r⟩
  | non => exact h
  | bl _ => exact h
  | int _ => exact h
  | str _ => exact h
  | cls _ => exact h
theorem RepT.rep {H : Hp} {p : PV} {v : V} (h : RepT K ca G H p v) (s : Same G H) : Rep K ca H p v := by
  cases p with
  | tup xs => obtain ⟨a, vs, e, q, r⟩ := h; exact ⟨a, vs, e, Same.sqT s q, r.mono s⟩
  | lst xs => obtain ⟨a, vs, e, q, r⟩ := h; exact ⟨a, vs, e, q, r.mono s⟩
  | rdl xs => obtain ⟨a, vs, e, q, r⟩ := h; exact ⟨a, vs, e, Same.seq s q, r.mono s⟩
  | ins c ks xs => obtain ⟨a, dx, fs, e, q, z, r⟩ := h; exact ⟨a, dx, fs, e, q, z, r.mono s⟩
  | dct ks xs => obtain ⟨a, kvs, e, q, z, r⟩ := h; exact ⟨a, kvs, e, q, z, r.mono s⟩
  | non => exact h
  | bl _ => exact h
  | int _ => exact h
  | str _ => exact h
  | cls _ => exact h
theorem MRep.top {H : Hp} {a : Addr} {o : MO} (h : MRep K ca G H a o) : RepT K ca G H o.pv (.ref a) := by
  cases o with
  | lst xs => obtain ⟨vs, e, r⟩ := h; exact ⟨a, vs, rfl, e, r⟩
  | ins c ks xs => obtain ⟨dx, fs, e, z, r⟩ := h; exact ⟨a, dx, fs, rfl, e, z, r⟩
  | dct ks xs => obtain ⟨kvs, e, z, r⟩ := h; exact ⟨a, kvs, rfl, e, z, r⟩
theorem MRep.rep {H : Hp} {a : Addr} {o : MO} (h : MRep K ca G H a o) (s : Same G H) : Rep K ca H o.pv (.ref a) := by
  cases o with
  | lst xs => obtain ⟨vs, e, r⟩ := h; exact ⟨a, vs, rfl, e, r.mono s⟩
  | ins c ks xs => obtain ⟨dx, fs, e, z, r⟩ := h; exact ⟨a, dx, fs, rfl, e, z, r.mono s⟩
  | dct ks xs => obtain ⟨kvs, e, z, r⟩ := h; exact ⟨a, kvs, rfl, e, z, r.mono s⟩
theorem MRep.mono {H H' : Hp} {a : Addr} {o : MO} (h : MRep K ca G H a o) (s : Same G G') (e : H' a = H a) : MRep K ca G' H' a o := by
  cases o with
  | lst xs => obtain ⟨vs, q, r⟩ := h; exact ⟨vs, e.trans q, r.mono s⟩
  | ins c ks xs => obtain ⟨dx, fs, q, z, r⟩ := h; exact ⟨dx, fs, e.trans q, z, r.mono s⟩
  | dct ks xs => obtain ⟨kvs, q, z, r⟩ := h; exact ⟨kvs, e.trans q, z, r.mono s⟩
theorem MRep.some {H : Hp} {a : Addr} {o : MO} (h : MRep K ca G H a o) : (H a).isSome = true := by
  cases o with
  | lst xs => obtain ⟨vs, q, r⟩ := h; rw [q]; rfl
  | ins c ks xs => obtain ⟨dx, fs, q, z, r⟩ := h; rw [q]; rfl
  | dct ks xs => obtain ⟨kvs, q, z, r⟩ := h; rw [q]; rfl
end

/-! ### the part of the heap that stands still -/
open Classical in
noncomputable def hid (H : Hp) (M : Addr → Prop) : Hp := fun a => if M a then none else H a
theorem hid_of {H : Hp} {M : Addr → Prop} {a : Addr} {o : HO} : hid H M a = some o ↔ H a = some o ∧ ¬ M a := by
  unfold hid
  split
  · simp [*]
  · simp [*]
theorem hid_same {H : Hp} {M : Addr → Prop} : Same (hid H M) H := fun _ _ h => (hid_of.mp h).1
theorem hid_less {H : Hp} {M M' : Addr → Prop} (h : ∀ a, M' a → M a) : Same (hid H M) (hid H M') := fun _ _ e => hid_of.mpr ⟨(hid_of.mp e).1, fun z => (hid_of.mp e).2 (h _ z)⟩
def addM (M : Addr → Prop) (p : Addr) : Addr → Prop := fun a => M a ∨ a = p
def subM (M : Addr → Prop) (p : Addr) : Addr → Prop := fun a => M a ∧ a ≠ p

/-- a def's activation (or a part of it): the heap at its begin, what was hidden there, what of that may change, pinned slots -/
structure Fx where
  H0 : Hp
  M0 : Addr → Prop
  ch : Addr → Prop
  par : List (Nat × Addr)

def SRep (K : PySem.W.Frag) (ca : CA) (M : Addr → Prop) (H : Hp) (v : V) : Slot → Prop
  | .val p => Rep K ca (hid H M) p v
  | .own o => ∃ a, v = .ref a ∧ M a ∧ MRep K ca (hid H M) H a o
  | .par o => ∃ a, v = .ref a ∧ M a ∧ MRep K ca (hid H M) H a o
  | .exn x => XSl K ca (hid H M) x v

structure Sim (K : PySem.W.Frag) (ca : CA) (c : Fx) (M : Addr → Prop) (σ : St) (H : Hp) (e : En) : Prop where
  len : e.length = σ.length
  slot : ∀ (i : Nat) s, e[i]? = some (some s) → ∃ v, σ[i]? = some (some v) ∧ SRep K ca M H v s
  inj : ∀ (i j : Nat) s t (a : Addr), e[i]? = some (some s) → e[j]? = some (some t) → s.chg = true → (t.chg = true ∨ t.pin = true) → σ[i]? = some (some (.ref a)) → σ[j]? = some (some (.ref a)) → i = j
  ext : Same (hid c.H0 c.M0) (hid H M)
  frame : ∀ a, c.M0 a → ¬ c.ch a → M a ∧ H a = c.H0 a
  ownd : ∀ (i : Nat) s (a : Addr), e[i]? = some (some s) → s.chg = true → σ[i]? = some (some (.ref a)) → c.ch a ∨ ¬ c.M0 a
  par : ∀ p ∈ c.par, σ[p.1]? = some (some (.ref p.2)) ∧ ∃ s, e[p.1]? = some (some s) ∧ s.pin = true
  there : ∀ a, M a → (H a).isSome = true
  cthere : ∀ a, c.ch a → (H a).isSome = true
  sub : ∀ a, c.ch a → c.M0 a

section
variable {K : PySem.W.Frag} {ca : CA} {c : Fx} {M M' : Addr → Prop} {σ σ' : St} {H H' : Hp} {e e' : En}

theorem Sim.freshM (S : Sim K ca c M σ H e) {p : Addr} (hp : H p = none) : ¬ M p := fun z => by
  have := S.there p z
  rw [hp] at this; cases this
theorem Sim.fresh0 (S : Sim K ca c M σ H e) {p : Addr} (hp : H p = none) : ¬ c.M0 p := fun z => by
  by_cases hc : c.ch p
  · have := S.cthere p hc
    rw [hp] at this; cases this
  · exact S.freshM hp (S.frame p z hc).1

/-- the same state as the begin of a part -/
def Fx.at (M : Addr → Prop) (σ : St) (H : Hp) (e : En) (par : List (Nat × Addr)) : Fx :=
  ⟨H, M, fun a => ∃ (i : Nat) (s : Slot), e[i]? = some (some s) ∧ s.chg = true ∧ σ[i]? = some (some (.ref a)), par⟩
theorem SRep.chg_at {s : Slot} {v : V} (h : SRep K ca M H v s) (hc : s.chg = true ∨ s.pin = true) : ∃ a, v = .ref a ∧ M a ∧ (H a).isSome = true := by
  cases s with
  | val p => rcases hc with h | h <;> cases h
  | exn p => rcases hc with h | h <;> cases h
  | own o => obtain ⟨a, e, m, r⟩ := h; exact ⟨a, e, m, r.some⟩
  | par o => obtain ⟨a, e, m, r⟩ := h; exact ⟨a, e, m, r.some⟩
theorem Sim.chg_at (S : Sim K ca c M σ H e) {i : Nat} {s : Slot} {a : Addr} (h : e[i]? = some (some s)) (hc : s.chg = true ∨ s.pin = true) (ha : σ[i]? = some (some (.ref a))) : M a ∧ (H a).isSome = true := by
  obtain ⟨v, e1, r⟩ := S.slot i s h
  obtain ⟨b, e2, m, z⟩ := r.chg_at hc
  rw [ha] at e1; cases e1; cases e2
  exact ⟨m, z⟩
theorem Sim.rebase (S : Sim K ca c M σ H e) {par : List (Nat × Addr)} (hp : ∀ p ∈ par, σ[p.1]? = some (some (.ref p.2)) ∧ ∃ s, e[p.1]? = some (some s) ∧ s.pin = true) : Sim K ca (Fx.at M σ H e par) M σ H e where
  len := S.len
  slot := S.slot
  inj := S.inj
  ext := Same.refl _
  frame := fun a h _ => ⟨h, rfl⟩
  ownd := fun i s a h1 h2 h3 => .inl ⟨i, s, h1, h2, h3⟩
  par := hp
  there := S.there
  cthere := fun a ⟨i, s, h1, h2, h3⟩ => (S.chg_at h1 (.inl h2) h3).2
  sub := fun a ⟨i, s, h1, h2, h3⟩ => (S.chg_at h1 (.inl h2) h3).1
theorem Sim.here (S : Sim K ca c M σ H e) : Sim K ca (Fx.at M σ H e c.par) M σ H e := S.rebase S.par
/-- behind the part -/
theorem Sim.back {par : List (Nat × Addr)} (S : Sim K ca c M σ H e) (S' : Sim K ca (Fx.at M σ H e par) M' σ' H' e') (hp : ∀ p ∈ c.par, p ∈ par) : Sim K ca c M' σ' H' e' where
  len := S'.len
  slot := S'.slot
  inj := S'.inj
  ext := S.ext.trans S'.ext
  frame := fun a h hn => by
    obtain ⟨m, q⟩ := S.frame a h hn
    obtain ⟨m', q'⟩ := S'.frame a m fun ⟨i, s, h1, h2, h3⟩ => by
      rcases S.ownd i s a h1 h2 h3 with z | z
      · exact hn z
      · exact z h
    exact ⟨m', q'.trans q⟩
  ownd := fun i s a h1 h2 h3 => by
    rcases S'.ownd i s a h1 h2 h3 with ⟨j, t, q1, q2, q3⟩ | z
    · exact S.ownd j t a q1 q2 q3
    · by_cases h0 : c.M0 a
      · by_cases hc : c.ch a
        · exact .inl hc
        · exact absurd (S.frame a h0 hc).1 z
      · exact .inr h0
  par := fun p hq => S'.par p (hp p hq)
  there := S'.there
  cthere := fun a h => by
    have h1 := S.cthere a h
    by_cases hm : M a
    · by_cases hs : (Fx.at M σ H e par).ch a
      · exact S'.cthere a hs
      · rw [(S'.frame a hm hs).2]
        exact h1
    · cases q : H a with
      | none => rw [q] at h1; cases h1
      | some o => rw [(hid_of.mp (S'.ext a o (hid_of.mpr ⟨q, hm⟩))).1]; rfl
  sub := S.sub
theorem Sim.backH (S : Sim K ca c M σ H e) (S' : Sim K ca (Fx.at M σ H e c.par) M' σ' H' e') : Sim K ca c M' σ' H' e' := S.back S' fun _ h => h
end
end QB

namespace QB
open PySem L2

/-! ### what code means -/
inductive ER (α : Type) where
  | ok (a : α) (e : En) | exc (x : PX) (e : En) | bad
abbrev EM (α : Type) := En → ER α
def EM.ret {α : Type} (a : α) : EM α := fun e => .ok a e
def EM.bind {α β : Type} (m : EM α) (f : α → EM β) : EM β := fun e => match m e with
  | .ok a e' => f a e'
  | .exc x e' => .exc x e'
  | .bad => .bad
def EM.bad {α : Type} : EM α := fun _ => .bad
def EM.opt {α : Type} : Option α → EM α
  | some a => EM.ret a
  | none => EM.bad
/-- nothing may be raised -/
def EM.calm {α : Type} (m : EM α) : EM α := fun e => match m e with
  | .ok a e' => .ok a e'
  | _ => .bad
instance : Monad EM where
  pure := EM.ret
  bind := EM.bind

inductive SR where
  | nx (e : En) | rt (r : RV) (e : En) | bk (e : En) | ct (e : En) | xc (x : PX) (e : En) | bad
abbrev SM := En → SR

abbrev XRep (K : PySem.W.Frag) (ca : CA) (M : Addr → Prop) (H : Hp) (x : PX) (cls : Value) (d : Option Addr) : Prop := XR K ca (hid H M) x cls d
theorem XRep.mono {K : PySem.W.Frag} {ca : CA} {M M' : Addr → Prop} {H H' : Hp} {x : PX} {cls : Value} {d : Option Addr} (h : XRep K ca M H x cls d) (s : Same (hid H M) (hid H' M')) : XRep K ca M' H' x cls d := XR.mono s h

abbrev RelT (α β : Type) := Fx → (Addr → Prop) → St → Hp → En → α → β → Prop
def RdAt {α β : Type} (K : PySem.W.Frag) (ca : CA) (c : Fx) (m : EM α) (rel : RelT α β) (W : WX) (e : En) (σ : St) (Q : β → Hp → Prop) : Prop :=
  match m e with
  | .ok a e' => ∀ b H' M', Sim K ca c M' σ H' e' → rel c M' σ H' e' a b → Q b H'
  | .exc x e' => ∀ cls d H' M', Sim K ca c M' σ H' e' → XRep K ca M' H' x cls d → W cls d σ H'
  | .bad => False
def Rd {α β : Type} (K : PySem.W.Frag) (ca : CA) (m : EM α) (rel : RelT α β) (W : WX) (σ : St) (H : Hp) (Q : β → Hp → Prop) : Prop :=
  ∃ c M e, Sim K ca c M σ H e ∧ RdAt K ca c m rel W e σ Q

section
variable {K : PySem.W.Frag} {ca : CA} {c : Fx} {M : Addr → Prop} {σ : St} {H : Hp} {e : En} {W : WX} {α β γ δ : Type}

theorem RdAt.bindAt {ma : EM α} {f : α → EM γ} {rel1 : RelT α β} {rel2 : RelT γ δ} {Q : δ → Hp → Prop} {P : β → Hp → Prop} (h : RdAt K ca c (ma.bind f) rel2 W e σ Q) (S : Sim K ca c M σ H e)
    (k : ∀ a b H1 M1 e1, Sim K ca c M1 σ H1 e1 → Same (hid H M) (hid H1 M1) → Sim K ca (Fx.at M σ H e c.par) M1 σ H1 e1 → rel1 (Fx.at M σ H e c.par) M1 σ H1 e1 a b → RdAt K ca c (f a) rel2 W e1 σ Q → P b H1) : RdAt K ca (Fx.at M σ H e c.par) ma rel1 W e σ P := by
  unfold RdAt EM.bind at h
  unfold RdAt
  cases q : ma e with
  | ok a e' =>
    rw [q] at h
    exact fun b H' M' S' r => k a b H' M' e' (S.backH S') S'.ext S' r h
  | exc x e' =>
    rw [q] at h
    exact fun cls d H' M' S' r => h cls d H' M' (S.backH S') r
  | bad => rw [q] at h; exact h.elim
theorem RdAt.bind {ma : EM α} {f : α → EM γ} {rel1 : RelT α β} {rel2 : RelT γ δ} {Q : δ → Hp → Prop} {P : β → Hp → Prop} (h : RdAt K ca c (ma.bind f) rel2 W e σ Q) (S : Sim K ca c M σ H e)
    (k : ∀ a b H1 M1 e1, Sim K ca c M1 σ H1 e1 → Same (hid H M) (hid H1 M1) → Sim K ca (Fx.at M σ H e c.par) M1 σ H1 e1 → rel1 (Fx.at M σ H e c.par) M1 σ H1 e1 a b → RdAt K ca c (f a) rel2 W e1 σ Q → P b H1) : Rd K ca ma rel1 W σ H P :=
  ⟨_, M, e, S.here, h.bindAt S k⟩
/-- nothing more -/
theorem RdAt.ret {a : α} {b : β} {rel : RelT α β} {Q : β → Hp → Prop} (h : RdAt K ca c (EM.ret a) rel W e σ Q) (S : Sim K ca c M σ H e) (r : rel c M σ H e a b) : Q b H := h b H M S r
theorem RdAt.okAt {a : α} {b : β} {e' : En} {m : EM α} {rel : RelT α β} {Q : β → Hp → Prop} {H' : Hp} {M' : Addr → Prop} (h : RdAt K ca c m rel W e σ Q) (q : m e = .ok a e') (S : Sim K ca c M' σ H' e') (r : rel c M' σ H' e' a b) : Q b H' := by
  unfold RdAt at h
  rw [q] at h
  exact h b H' M' S r
theorem RdAt.opt {o : Option α} {rel : RelT α β} {Q : β → Hp → Prop} (h : RdAt K ca c (EM.opt o) rel W e σ Q) : ∃ a, o = some a ∧ RdAt K ca c (EM.ret a) rel W e σ Q := by
  cases o with
  | none => exact h.elim
  | some a => exact ⟨a, rfl, h⟩
end

/-- values -/
def relV (K : PySem.W.Frag) (ca : CA) : RelT RV V := fun c M σ H e r v =>
  Rep K ca (hid H M) r.pv v ∧ match r with
    | .val _ => True
    | .own o => ∃ a, v = .ref a ∧ ¬ M a ∧ Sim K ca c (addM M a) σ H e ∧ MRep K ca (hid H (addM M a)) H a o
/-- what is read by its name, or a value -/
inductive Opd where
  | slot (i : Nat) | pv (p : PV)
def relO (K : PySem.W.Frag) (ca : CA) : RelT Opd V := fun _ M σ H _ o v => match o with
  | .slot i => σ[i]? = some (some v)
  | .pv p => Rep K ca (hid H M) p v
def relOs (K : PySem.W.Frag) (ca : CA) : RelT (List Opd) (List V) := fun c M σ H e os vs => Paired (fun o v => relO K ca c M σ H e o v) os vs
def relB : RelT Bool Bool := fun _ _ _ _ _ a b => a = b
def Opd.look (e : En) : Opd → Option PV
  | .slot i => match e[i]? with
    | some (some s) => s.pvo
    | _ => none
  | .pv p => some p
def lookM (o : Opd) : EM PV := fun e => match o.look e with
  | some p => .ok p e
  | none => .bad
def looks (e : En) : List Opd → Option (List PV)
  | [] => some []
  | o :: os => match o.look e, looks e os with
    | some p, some ps => some (p :: ps)
    | _, _ => none
def looksM (os : List Opd) : EM (List PV) := fun e => match looks e os with
  | some ps => .ok ps e
  | none => .bad

section
variable {K : PySem.W.Frag} {ca : CA} {c c' : Fx} {M M' : Addr → Prop} {σ : St} {H H' : Hp} {e e' : En} {W : WX}
theorem SRep.rep {v : V} {s : Slot} {p : PV} (h : SRep K ca M H v s) (hp : s.pvo = some p) : RepT K ca (hid H M) H p v := by
  cases s with
  | val q => cases hp; exact Rep.top h hid_same
  | own o => cases hp; obtain ⟨a, rfl, m, r⟩ := h; exact r.top
  | par o => cases hp; obtain ⟨a, rfl, m, r⟩ := h; exact r.top
  | exn x => cases hp
theorem Sim.look (S : Sim K ca c M σ H e) {o : Opd} {v : V} {p : PV} (r : relO K ca c' M σ H e' o v) (h : o.look e = some p) : RepT K ca (hid H M) H p v := by
  cases o with
  | pv q =>
    cases h
    exact Rep.top r hid_same
  | slot i =>
    unfold Opd.look at h
    cases q : e[i]? with
    | none => simp only [q] at h; cases h
    | some z =>
      cases z with
      | none => simp only [q] at h; cases h
      | some s =>
        simp only [q] at h
        obtain ⟨w, e1, r1⟩ := S.slot i s q
        have r' : σ[i]? = some (some v) := r
        rw [r'] at e1; cases e1
        exact r1.rep h
theorem relO.mono {o : Opd} {v : V} (r : relO K ca c M σ H e o v) (s : Same (hid H M) (hid H' M')) : relO K ca c' M' σ H' e' o v := by
  cases o with
  | slot i => exact r
  | pv p => exact Rep.mono s r
theorem Sim.looks (S : Sim K ca c M σ H e) : ∀ {os : List Opd} {vs : List V} {ps : List PV}, relOs K ca c' M σ H e' os vs → QB.looks e os = some ps → Paired (fun p v => RepT K ca (hid H M) H p v) ps vs
  | [], _, ps, .nil, h => by cases h; exact .nil
  | o :: os, v :: vs, ps, .cons r t, h => by
    unfold QB.looks at h
    cases h1 : o.look e with
    | none => rw [h1] at h; cases h
    | some p =>
      cases h2 : QB.looks e os with
      | none => rw [h1, h2] at h; cases h
      | some qs =>
        rw [h1, h2] at h
        cases h
        exact .cons (S.look r h1) (S.looks t h2)
theorem relOs.mono : ∀ {os : List Opd} {vs : List V}, relOs K ca c M σ H e os vs → Same (hid H M) (hid H' M') → relOs K ca c' M' σ H' e' os vs
  | _, _, .nil, _ => .nil
  | _, _, .cons r t, s => .cons (relO.mono r s) (relOs.mono t s)
theorem RdAt.lookM {γ δ : Type} {o : Opd} {v : V} {f : PV → EM γ} {rel : RelT γ δ} {Q : δ → Hp → Prop} (h : RdAt K ca c ((QB.lookM o).bind f) rel W e σ Q) (S : Sim K ca c M σ H e) (r : relO K ca c' M σ H e' o v) :
    ∃ p, o.look e = some p ∧ RepT K ca (hid H M) H p v ∧ RdAt K ca c (f p) rel W e σ Q := by
  unfold RdAt EM.bind QB.lookM at h
  cases q : o.look e with
  | none => rw [q] at h; exact h.elim
  | some p => rw [q] at h; exact ⟨p, rfl, S.look r q, h⟩
theorem RdAt.looksM {γ δ : Type} {os : List Opd} {vs : List V} {f : List PV → EM γ} {rel : RelT γ δ} {Q : δ → Hp → Prop} (h : RdAt K ca c ((QB.looksM os).bind f) rel W e σ Q) (S : Sim K ca c M σ H e) (r : relOs K ca c' M σ H e' os vs) :
    ∃ ps, QB.looks e os = some ps ∧ Paired (fun p v => RepT K ca (hid H M) H p v) ps vs ∧ RdAt K ca c (f ps) rel W e σ Q := by
  unfold RdAt EM.bind QB.looksM at h
  cases q : QB.looks e os with
  | none => rw [q] at h; exact h.elim
  | some p => rw [q] at h; exact ⟨p, rfl, S.looks r q, h⟩

/-! ### new objects -/
theorem same_upd {p : Addr} {o : HO} (hp : H p = none) : Same (hid H M) (hid (upd H p o) M) := fun a q h => by
  obtain ⟨h1, h2⟩ := hid_of.mp h
  exact hid_of.mpr ⟨by rw [upd_ne (ne_of_none h1 hp)]; exact h1, h2⟩
theorem same_updA {p : Addr} {o : HO} (hp : H p = none) : Same (hid H M) (hid (upd H p o) (addM M p)) := fun a q h => by
  obtain ⟨h1, h2⟩ := hid_of.mp h
  have ne := ne_of_none h1 hp
  exact hid_of.mpr ⟨by rw [upd_ne ne]; exact h1, fun z => z.elim h2 ne⟩
theorem upd_live {p a : Addr} {o : HO} (h : (H a).isSome = true) : (upd H p o a).isSome = true := by
  unfold upd
  split
  · rfl
  · exact h
theorem SRep.alloc {p : Addr} {o : HO} {v : V} {s : Slot} (hp : H p = none) (h : SRep K ca M H v s) : SRep K ca M (upd H p o) v s := by
  have ne : ∀ {a : Addr} {m : MO}, MRep K ca (hid H M) H a m → upd H p o a = H a := fun {a m} r => by
    refine upd_ne fun z => ?_
    have := r.some
    rw [z, hp] at this; cases this
  cases s with
  | val q => exact Rep.mono (same_upd hp) h
  | exn x => exact XSl.mono (same_upd hp) h
  | own m => obtain ⟨a, e1, e2, r⟩ := h; exact ⟨a, e1, e2, r.mono (same_upd hp) (ne r)⟩
  | par m => obtain ⟨a, e1, e2, r⟩ := h; exact ⟨a, e1, e2, r.mono (same_upd hp) (ne r)⟩
theorem SRep.allocA {p : Addr} {o : HO} {v : V} {s : Slot} (hp : H p = none) (h : SRep K ca M H v s) : SRep K ca (addM M p) (upd H p o) v s := by
  have ne : ∀ {a : Addr} {m : MO}, MRep K ca (hid H M) H a m → upd H p o a = H a := fun {a m} r => by
    refine upd_ne fun z => ?_
    have := r.some
    rw [z, hp] at this; cases this
  cases s with
  | val q => exact Rep.mono (same_updA hp) h
  | exn x => exact XSl.mono (same_updA hp) h
  | own m => obtain ⟨a, e1, e2, r⟩ := h; exact ⟨a, e1, .inl e2, r.mono (same_updA hp) (ne r)⟩
  | par m => obtain ⟨a, e1, e2, r⟩ := h; exact ⟨a, e1, .inl e2, r.mono (same_updA hp) (ne r)⟩
theorem Sim.alloc (S : Sim K ca c M σ H e) {p : Addr} {o : HO} (hp : H p = none) : Sim K ca c M σ (upd H p o) e where
  len := S.len
  slot := fun i s h => by
    obtain ⟨v, e1, r⟩ := S.slot i s h
    exact ⟨v, e1, r.alloc hp⟩
  inj := S.inj
  ext := S.ext.trans (same_upd hp)
  frame := fun a h hn => by
    obtain ⟨m, q⟩ := S.frame a h hn
    have ne : a ≠ p := fun z => S.freshM hp (z ▸ m)
    refine ⟨m, ?_⟩
    rw [upd_ne ne]
    exact q
  ownd := S.ownd
  par := S.par
  there := fun a h => upd_live (S.there a h)
  cthere := fun a h => upd_live (S.cthere a h)
  sub := S.sub
theorem Sim.allocA (S : Sim K ca c M σ H e) {p : Addr} {o : HO} (hp : H p = none) : Sim K ca c (addM M p) σ (upd H p o) e where
  len := S.len
  slot := fun i s h => by
    obtain ⟨v, e1, r⟩ := S.slot i s h
    exact ⟨v, e1, r.allocA hp⟩
  inj := S.inj
  ext := S.ext.trans (same_updA hp)
  frame := fun a h hn => by
    obtain ⟨m, q⟩ := S.frame a h hn
    have ne : a ≠ p := fun z => S.freshM hp (z ▸ m)
    refine ⟨.inl m, ?_⟩
    rw [upd_ne ne]
    exact q
  ownd := S.ownd
  par := S.par
  there := fun a h => by
    rcases h with h | h
    · exact upd_live (S.there a h)
    · rw [h, upd_same]; rfl
  cthere := fun a h => upd_live (S.cthere a h)
  sub := S.sub
/-- a new list, handed on -/
theorem relV.newL (S : Sim K ca c M σ H e) {p : Addr} {ps : List PV} {vs : List V} (hp : H p = none) (r : Reps K ca (hid H M) ps vs) : relV K ca c M σ (upd H p (.lst vs)) e (.own (.lst ps)) (.ref p) := by
  refine ⟨⟨p, vs, rfl, hid_of.mpr ⟨upd_same, S.freshM hp⟩, r.mono (same_upd hp)⟩, p, rfl, S.freshM hp, S.allocA hp, vs, upd_same, r.mono (same_updA hp)⟩
theorem relV.newT (S : Sim K ca c M σ H e) {p : Addr} {ps : List PV} {vs : List V} (hp : H p = none) (r : Reps K ca (hid H M) ps vs) : relV K ca c M σ (upd H p (.tup vs)) e (.val (.tup ps)) (.ref p) :=
  ⟨⟨p, vs, rfl, .inl (.inl (hid_of.mpr ⟨upd_same, S.freshM hp⟩)), r.mono (same_upd hp)⟩, trivial⟩
theorem relV.val {p : PV} {v : V} (r : Rep K ca (hid H M) p v) : relV K ca c M σ H e (.val p) v := ⟨r, trivial⟩

/-! ### a name's value is handed on: what it names stands still from then on -/
def getM (i : Nat) : EM RV := fun e => match e[i]? with
  | some (some (.val p)) => .ok (.val p) e
  | some (some (.own o)) => .ok (.val o.pv) (e.set i (some (.val o.pv)))
  | _ => .bad
theorem Sim.freeze (S : Sim K ca c M σ H e) {i : Nat} {o : MO} {a : Addr} (h : e[i]? = some (some (.own o))) (ha : σ[i]? = some (some (.ref a))) :
    Sim K ca c (subM M a) σ H (e.set i (some (.val o.pv))) ∧ Rep K ca (hid H (subM M a)) o.pv (.ref a) := by
  have hi : i < e.length := (List.getElem?_eq_some_iff.mp h).1
  have sm : Same (hid H M) (hid H (subM M a)) := hid_less fun b z => z.1
  obtain ⟨v, e1, r⟩ := S.slot i _ h
  rw [ha] at e1; cases e1
  obtain ⟨a', ea, ma, mr⟩ := r
  cases ea
  have nm : ¬ subM M a a := fun z => z.2 rfl
  have rep : Rep K ca (hid H (subM M a)) o.pv (.ref a) := by
    cases o with
    | lst xs => obtain ⟨vs, q, r⟩ := mr; exact ⟨a, vs, rfl, hid_of.mpr ⟨q, nm⟩, r.mono sm⟩
    | ins cc ks xs => obtain ⟨dx, fs, q, z, r⟩ := mr; exact ⟨a, dx, fs, rfl, hid_of.mpr ⟨q, nm⟩, z, r.mono sm⟩
    | dct ks xs => obtain ⟨kvs, q, z, r⟩ := mr; exact ⟨a, kvs, rfl, hid_of.mpr ⟨q, nm⟩, z, r.mono sm⟩
  have other : ∀ {j : Nat} {s : Slot}, (e.set i (some (.val o.pv)))[j]? = some (some s) → (j = i ∧ s = .val o.pv) ∨ (j ≠ i ∧ e[j]? = some (some s)) := fun {j s} q => by
    by_cases hj : j = i
    · subst hj
      rw [List.getElem?_set_self hi] at q
      cases q
      exact .inl ⟨rfl, rfl⟩
    · rw [List.getElem?_set_ne (Ne.symm hj)] at q
      exact .inr ⟨hj, q⟩
  refine ⟨⟨by rw [List.length_set]; exact S.len, fun j s q => ?_, fun j k s t b q1 q2 h1 h2 q3 q4 => ?_, S.ext.trans sm, fun b h0 hn => ?_, fun j s b q h1 h2 => ?_, fun p hp => ?_, fun b h0 => S.there b h0.1, S.cthere, S.sub⟩, rep⟩
  · rcases other q with ⟨rfl, rfl⟩ | ⟨hj, q⟩
    · exact ⟨_, ha, rep⟩
    · obtain ⟨v, e1, r⟩ := S.slot j s q
      refine ⟨v, e1, ?_⟩
      have far : (s.chg = true ∨ s.pin = true) → ∀ b, v = .ref b → b ≠ a := fun hc b eb z => by
        subst eb; subst z
        exact hj (S.inj i j _ s b h q rfl hc ha e1).symm
      cases s with
      | val p => exact Rep.mono sm r
      | exn x => exact XSl.mono sm r
      | own m => obtain ⟨b, eb, mb, r⟩ := r; exact ⟨b, eb, ⟨mb, far (.inl rfl) b eb⟩, r.mono sm rfl⟩
      | par m => obtain ⟨b, eb, mb, r⟩ := r; exact ⟨b, eb, ⟨mb, far (.inl rfl) b eb⟩, r.mono sm rfl⟩
  · rcases other q1 with ⟨_, rfl⟩ | ⟨_, q1⟩
    · cases h1
    · rcases other q2 with ⟨_, rfl⟩ | ⟨_, q2⟩
      · rcases h2 with h2 | h2 <;> cases h2
      · exact S.inj j k s t b q1 q2 h1 h2 q3 q4
  · obtain ⟨m, q⟩ := S.frame b h0 hn
    refine ⟨⟨m, fun z => ?_⟩, q⟩
    subst z
    rcases S.ownd i _ b h rfl ha with z | z
    · exact hn z
    · exact z h0
  · rcases other q with ⟨_, rfl⟩ | ⟨_, q⟩
    · cases h1
    · exact S.ownd j s b q h1 h2
  · obtain ⟨q1, s, q2, q3⟩ := S.par p hp
    refine ⟨q1, s, ?_, q3⟩
    by_cases hj : p.1 = i
    · rw [hj, h] at q2; cases q2; cases q3
    · rw [List.getElem?_set_ne (Ne.symm hj)]; exact q2
theorem Sim.get (S : Sim K ca c M σ H e) {i : Nat} {r : RV} {e' : En} (h : getM i e = .ok r e') : ∃ v M', σ[i]? = some (some v) ∧ Sim K ca c M' σ H e' ∧ relV K ca c M' σ H e' r v := by
  unfold getM at h
  cases q : e[i]? with
  | none => rw [q] at h; cases h
  | some z =>
    cases z with
    | none => rw [q] at h; cases h
    | some s =>
      obtain ⟨v, e1, r1⟩ := S.slot i s q
      cases s with
      | val p =>
        rw [q] at h; cases h
        exact ⟨v, M, e1, S, r1, trivial⟩
      | own o =>
        rw [q] at h; cases h
        obtain ⟨a, rfl, _, _⟩ := id r1
        obtain ⟨S', r'⟩ := S.freeze q e1
        exact ⟨_, _, e1, S', r', trivial⟩
      | par o => rw [q] at h; cases h
      | exn x => rw [q] at h; cases h
theorem RdAt.get {i : Nat} {Q : VK} (h : RdAt K ca c (getM i) (relV K ca) W e σ Q) (S : Sim K ca c M σ H e) : ∃ v, σ[i]? = some (some v) ∧ Q v H := by
  unfold RdAt at h
  cases q : getM i e with
  | ok r e' =>
    rw [q] at h
    obtain ⟨v, M', e1, S', r'⟩ := S.get q
    exact ⟨v, e1, h v H M' S' r'⟩
  | exc x e' =>
    exfalso
    unfold getM at q
    split at q <;> cases q
  | bad => rw [q] at h; exact h.elim
end
end QB

namespace QB
open PySem L2

/-! ### judgements -/
def JE (X : Cx) (ca : CA) (m : EM RV) (e : Expr) : Prop := ∀ W, Takes X W → PE X e (Rd X.K ca m (relV X.K ca) W)
def JO (X : Cx) (ca : CA) (m : EM Opd) (e : Expr) : Prop := ∀ W, Takes X W → PE X e (Rd X.K ca m (relO X.K ca) W)
def JT (X : Cx) (ca : CA) (m : EM Bool) (e : Expr) : Prop := ∀ W, Takes X W → PT X e (Rd X.K ca m relB W)
def JW (X : Cx) (ca : CA) (m : EM Bool) (e : Expr) : Prop := ∀ W, Takes X W → PW X e (Rd X.K ca m relB W)
def JA (X : Cx) (ca : CA) (m : EM (List Opd)) (es : List Expr) : Prop := ∀ W, Takes X W → PA X es (Rd X.K ca m (relOs X.K ca) W)
def relPs (K : PySem.W.Frag) (ca : CA) : RelT (List PV) (List V) := fun _ M _ H _ ps vs => Reps K ca (hid H M) ps vs
def JV (X : Cx) (ca : CA) (m : EM (List PV)) (es : List Expr) : Prop := ∀ W, Takes X W → PA X es (Rd X.K ca m (relPs X.K ca) W)

section
variable {X : Cx} {e : Expr} {es : List Expr}
theorem PE.imp {t t' : TE} (h : PE X e t) (i : ∀ σ H Q, t' σ H Q → t σ H Q) : PE X e t' := ⟨fun pins s σ H Q I q => h.run pins s σ H Q I (i σ H Q q)⟩
theorem PT.imp {t t' : TT} (h : PT X e t) (i : ∀ σ H Q, t' σ H Q → t σ H Q) : PT X e t' := ⟨fun pins s σ H Q I q => h.run pins s σ H Q I (i σ H Q q)⟩
theorem PW.imp {t t' : TT} (h : PW X e t) (i : ∀ σ H Q, t' σ H Q → t σ H Q) : PW X e t' := ⟨fun wh pins s σ H Q I q => h.run wh pins s σ H Q I (i σ H Q q)⟩
theorem PA.imp {t t' : TA} (h : PA X es t) (i : ∀ σ H Q, t' σ H Q → t σ H Q) : PA X es t' := ⟨fun pos pins s σ H Q I q => h.run pos pins s σ H Q I (i σ H Q q)⟩
end

section
variable {X : Cx} {ca : CA}
/-! ### constants, names -/
theorem je_int {i : Int} {j pos} : JE X ca (EM.ret (.val (.int i))) (.Constant (.int i) j pos) := fun W _ => PE.imp pe_int fun σ H Q ⟨c, M, e, S, h⟩ => h.ret S ⟨rfl, trivial⟩
theorem je_bl {i : Bool} {j pos} : JE X ca (EM.ret (.val (.bl i))) (.Constant (.bool i) j pos) := fun W _ => PE.imp pe_bl fun σ H Q ⟨c, M, e, S, h⟩ => h.ret S ⟨rfl, trivial⟩
theorem je_str {i : Str} {j pos} : JE X ca (EM.ret (.val (.str i))) (.Constant (.str i) j pos) := fun W _ => PE.imp pe_str fun σ H Q ⟨c, M, e, S, h⟩ => h.ret S ⟨rfl, trivial⟩
theorem je_non {j pos} : JE X ca (EM.ret (.val .non)) (.Constant .none j pos) := fun W _ => PE.imp pe_non fun σ H Q ⟨c, M, e, S, h⟩ => h.ret S ⟨rfl, trivial⟩
theorem je_name {i : Nat} {x : Str} {pos : Pos} (hN : X.N[i]? = some x) (hv : Vis X.env.scope x) (hd : (x == ("__debug__" : Str)) = false) (hcd : (x == ("__classdict__" : Str)) = false) : JE X ca (getM i) (.Name x pos) := fun W _ =>
  PE.imp (pe_var hN hv hd hcd) fun σ H Q ⟨c, M, e, S, h⟩ => h.get S
def slotM (i : Nat) : EM Opd := fun e => match e[i]? with
  | some (some _) => .ok (.slot i) e
  | _ => .bad
theorem jo_name {i : Nat} {x : Str} {pos : Pos} (hN : X.N[i]? = some x) (hv : Vis X.env.scope x) (hd : (x == ("__debug__" : Str)) = false) (hcd : (x == ("__classdict__" : Str)) = false) : JO X ca (slotM i) (.Name x pos) := fun W _ =>
  PE.imp (pe_var hN hv hd hcd) fun σ H Q ⟨c, M, e, S, h⟩ => by
    unfold RdAt slotM at h
    cases q : e[i]? with
    | none => simp only [q] at h
    | some z =>
      cases z with
      | none => simp only [q] at h
      | some s =>
        simp only [q] at h
        obtain ⟨v, e1, _⟩ := S.slot i s q
        exact ⟨v, e1, h v H M S e1⟩
/-- a constant of the module -/
def KRep (K : PySem.W.Frag) (ca : CA) (p : PV) (v : V) : Prop := ∀ G : Hp, Rep K ca G p v
theorem je_glob {x : Str} {v : V} {u : Value} {p : PV} {pos : Pos} (hg : Gl X x) (hm : X.mg x = some u) (r : RelV v u) (k : KRep X.K ca p v) (hd : (x == ("__debug__" : Str)) = false) : JE X ca (EM.ret (.val p)) (.Name x pos) := fun W _ =>
  PE.imp (pe_glob hg hm r hd) fun σ H Q ⟨c, M, e, S, h⟩ => h.ret S ⟨k _, trivial⟩
def opdM (m : EM RV) : EM Opd := m.bind fun r => EM.ret (.pv r.pv)
theorem jo_of {m : EM RV} {e : Expr} (h : JE X ca m e) : JO X ca (opdM m) e := fun W tk =>
  PE.imp (h W tk) fun σ H Q ⟨c, M, e, S, q⟩ => RdAt.bind q S fun a b H1 M1 e1 S1 _ _ r q1 => q1.ret S1 r.1

/-! ### lists of expressions -/
def isStar : Expr → Bool
  | .Starred _ _ => true
  | _ => false
theorem star_cons {e : Expr} {es : List Expr} {env : Env} (h : isStar e = false) : starEach (e :: es) env = (false, eval e env) :: starEach es env := by
  cases e <;> first | rfl | cases h
def opdsNil : EM (List Opd) := EM.ret []
def opdsCons (m : EM Opd) (ms : EM (List Opd)) : EM (List Opd) := m.bind fun o => ms.bind fun os => EM.ret (o :: os)
theorem ja_nil : JA X ca opdsNil [] := fun W _ => PA.imp pa_nil fun σ H Q ⟨c, M, e, S, h⟩ => h.ret S .nil
theorem ja_cons {e : Expr} {es : List Expr} {m : EM Opd} {ms : EM (List Opd)} (hs : isStar e = false) (h : JO X ca m e) (hr : JA X ca ms es) : JA X ca (opdsCons m ms) (e :: es) := fun W tk =>
  PA.imp (pa_cons (h W tk) (hr W tk) (star_cons hs)) fun σ H Q ⟨c, M, e, S, q⟩ => RdAt.bind q S fun o v H1 M1 e1 S1 _ _ r q1 =>
    RdAt.bind q1 S1 fun os vs H2 M2 e2 S2 sm _ r2 q2 => q2.ret S2 (.cons (relO.mono r sm) (relOs.mono r2 (Same.refl _)))
def valsNil : EM (List PV) := EM.ret []
def valsCons (m : EM RV) (ms : EM (List PV)) : EM (List PV) := m.bind fun r => ms.bind fun ps => EM.ret (r.pv :: ps)
theorem jv_nil : JV X ca valsNil [] := fun W _ => PA.imp pa_nil fun σ H Q ⟨c, M, e, S, h⟩ => h.ret S rfl
theorem jv_cons {e : Expr} {es : List Expr} {m : EM RV} {ms : EM (List PV)} (hs : isStar e = false) (h : JE X ca m e) (hr : JV X ca ms es) : JV X ca (valsCons m ms) (e :: es) := fun W tk =>
  PA.imp (pa_cons (h W tk) (hr W tk) (star_cons hs)) fun σ H Q ⟨c, M, e, S, q⟩ => RdAt.bind q S fun r v H1 M1 e1 S1 _ _ rr q1 =>
    RdAt.bind q1 S1 fun ps vs H2 M2 e2 S2 sm _ r2 q2 => q2.ret S2 ⟨v, vs, rfl, rr.1.mono sm, r2⟩
/-- (a, b), [a, b] -/
def szOk (n : Nat) : Bool := decide (n ≤ sizeLine)
def tupM (m : EM (List PV)) : EM RV := m.bind fun ps => if szOk ps.length then EM.ret (.val (.tup ps)) else EM.bad
def lstM (m : EM (List PV)) : EM RV := m.bind fun ps => if szOk ps.length then EM.ret (.own (.lst ps)) else EM.bad
theorem RdAt.ite {K : PySem.W.Frag} {c : Fx} {α β : Type} {rel : RelT α β} {W : WX} {e : En} {σ : St} {Q : β → Hp → Prop} {b : Bool} {m : EM α} (h : RdAt K ca c (if b = true then m else EM.bad) rel W e σ Q) : b = true ∧ RdAt K ca c m rel W e σ Q := by
  cases b with
  | true => exact ⟨rfl, h⟩
  | false => exact False.elim h
theorem je_tup {es : List Expr} {m : EM (List PV)} {k : Nat} {pos : Pos} (h : JV X ca m es) : JE X ca (tupM m) (.Tuple es k pos) := fun W tk =>
  PE.imp (pe_tup (h W tk)) fun σ H Q ⟨c, M, e, S, q⟩ => RdAt.bind q S fun ps vs H1 M1 e1 S1 _ _ r q1 => by
    obtain ⟨hz, q2⟩ := q1.ite
    exact ⟨by rw [r.length]; exact of_decide_eq_true hz, fun p hp => q2.ret (S1.alloc hp) (relV.newT S1 hp r)⟩
theorem je_lst {es : List Expr} {m : EM (List PV)} {pos : Pos} (h : JV X ca m es) : JE X ca (lstM m) (.List es pos) := fun W tk =>
  PE.imp (pe_lst (h W tk)) fun σ H Q ⟨c, M, e, S, q⟩ => RdAt.bind q S fun ps vs H1 M1 e1 S1 _ _ r q1 => by
    obtain ⟨hz, q2⟩ := q1.ite
    exact ⟨by rw [r.length]; exact of_decide_eq_true hz, fun p hp => q2.ret (S1.alloc hp) (relV.newL S1 hp r)⟩

/-! ### operators -/
/-- an operator's meaning, by values -/
def rSem2 (K : PySem.W.Frag) (ca : CA) (W : WX) (f : PV → PV → EM RV) : R2 := fun v w H Q => ∃ c M σ e x y, Sim K ca c M σ H e ∧ RepT K ca (hid H M) H x v ∧ RepT K ca (hid H M) H y w ∧ RdAt K ca c (f x y) (relV K ca) W e σ Q
def mulOk (i j : Int) : Bool := decide ((-(2 ^ 64) < i ∧ i < 2 ^ 64) ∨ (-(2 ^ 64) < j ∧ j < 2 ^ 64))
def opAdd : PV → PV → EM RV
  | .int i, .int j => EM.ret (.val (.int (i + j)))
  | .str a, .str b => if szOk (a.length + b.length) then EM.ret (.val (.str (a ++ b))) else EM.bad
  | .lst xs, .lst ys => if szOk (xs.length + ys.length) then EM.ret (.own (.lst (xs ++ ys))) else EM.bad
  | .tup xs, .tup ys => if !xs.isEmpty && szOk (xs.length + ys.length) then EM.ret (.val (.tup (xs ++ ys))) else EM.bad
  | _, _ => EM.bad
def opSub : PV → PV → EM RV
  | .int i, .int j => EM.ret (.val (.int (i - j)))
  | _, _ => EM.bad
def opMul : PV → PV → EM RV
  | .int i, .int j => if mulOk i j then EM.ret (.val (.int (i * j))) else EM.bad
  | .lst xs, .int k => if decide (0 ≤ k ∧ k < 2 ^ 63) && szOk (xs.length * k.toNat) then EM.ret (.own (.lst (List.replicate k.toNat xs).flatten)) else EM.bad
  | _, _ => EM.bad
def opMod : PV → PV → EM RV
  | .int i, .int j => if decide (0 < j) then EM.ret (.val (.int (i % j))) else EM.bad
  | _, _ => EM.bad
def opDiv : PV → PV → EM RV
  | .int i, .int j => if decide (0 < j ∧ j < 1073741824) then EM.ret (.val (.int (i / j))) else EM.bad
  | _, _ => EM.bad
def opPow : PV → PV → EM RV
  | .int i, .int j => if decide (0 ≤ j ∧ j ≤ 1000000 ∧ i.natAbs < 2 ^ 64) then EM.ret (.val (.int (i ^ j.toNat))) else EM.bad
  | _, _ => EM.bad
theorem Reps.rep {K : PySem.W.Frag} {G : Hp} {ps : List PV} {vs : List V} (h : Reps K ca G ps vs) : ∀ k : Nat, Reps K ca G (List.replicate k ps).flatten (List.replicate k vs).flatten
  | 0 => rfl
  | k + 1 => by rw [List.replicate_succ, List.replicate_succ, List.flatten_cons, List.flatten_cons]; exact h.append (Reps.rep h k)
theorem or_add {W : WX} : OpR X (binaryOp .Add) (rSem2 X.K ca W opAdd) := by
  intro pins s σ0 H v w u1 u2 Q I r1 r2 ⟨c, M, σ, e, x, y, S, rx, ry, h⟩
  cases x <;> cases y <;> first | exact False.elim h | skip
  case int.int i j =>
    cases rx; cases ry
    exact op_add pins s σ0 H _ _ u1 u2 Q I r1 r2 ⟨i, j, rfl, rfl, h.ret S ⟨rfl, trivial⟩⟩
  case str.str a b =>
    cases rx; cases ry
    obtain ⟨hz, h⟩ := RdAt.ite h
    exact op_add_str pins s σ0 H _ _ u1 u2 Q I r1 r2 ⟨a, b, rfl, rfl, of_decide_eq_true hz, h.ret S ⟨rfl, trivial⟩⟩
  case lst.lst xs ys =>
    obtain ⟨a, vs, rfl, ha, ra⟩ := rx
    obtain ⟨b, ws, rfl, hb, rb⟩ := ry
    obtain ⟨hz, h⟩ := RdAt.ite h
    refine op_cat pins s σ0 H _ _ u1 u2 Q I r1 r2 ⟨a, b, vs, ws, rfl, rfl, ha, hb, by rw [ra.length, rb.length]; exact of_decide_eq_true hz, fun p hp => ?_⟩
    exact h.ret (S.alloc hp) (relV.newL S hp (ra.append rb))
  case tup.tup xs ys =>
    obtain ⟨a, vs, rfl, ha, ra⟩ := rx
    obtain ⟨b, ws, rfl, hb, rb⟩ := ry
    obtain ⟨hz, h⟩ := RdAt.ite h
    obtain ⟨hn, hz⟩ := Bool.and_eq_true_iff.mp hz
    refine op_catT pins s σ0 H _ _ u1 u2 Q I r1 r2 ⟨a, b, vs, ws, rfl, rfl, Same.sqT hid_same ha, Same.sqT hid_same hb, fun z => ?_, by rw [ra.length, rb.length]; exact of_decide_eq_true hz, fun z => ?_, fun z p hp => ?_⟩
    · have := ra.length
      rw [z] at this
      cases xs with
      | nil => cases hn
      | cons _ _ => cases this
    · have e0 : ys = [] := by
        have := rb.length
        rw [z] at this
        cases ys with
        | nil => rfl
        | cons _ _ => cases this
      subst e0
      refine h.ret S ⟨?_, trivial⟩
      show Rep X.K ca (hid H M) (.tup (xs ++ [])) (.ref a)
      rw [List.append_nil]
      exact ⟨a, vs, rfl, ha, ra⟩
    · exact h.ret (S.alloc hp) (relV.newT S hp (ra.append rb))
theorem or_sub {W : WX} : OpR X (binaryOp .Sub) (rSem2 X.K ca W opSub) := by
  intro pins s σ0 H v w u1 u2 Q I r1 r2 ⟨c, M, σ, e, x, y, S, rx, ry, h⟩
  cases x <;> cases y <;> first | exact False.elim h | skip
  case int.int i j =>
    cases rx; cases ry
    exact op_sub pins s σ0 H _ _ u1 u2 Q I r1 r2 ⟨i, j, rfl, rfl, h.ret S ⟨rfl, trivial⟩⟩
theorem or_mul {W : WX} : OpR X (binaryOp .Mult) (rSem2 X.K ca W opMul) := by
  intro pins s σ0 H v w u1 u2 Q I r1 r2 ⟨c, M, σ, e, x, y, S, rx, ry, h⟩
  cases x <;> cases y <;> first | exact False.elim h | skip
  case int.int i j =>
    cases rx; cases ry
    obtain ⟨hz, h⟩ := RdAt.ite h
    have hc := of_decide_eq_true hz
    exact op_mul pins s σ0 H _ _ u1 u2 Q I r1 r2 ⟨i, j, rfl, rfl, hc, h.ret S ⟨rfl, trivial⟩⟩
  case lst.int xs k =>
    obtain ⟨a, vs, rfl, ha, ra⟩ := rx
    cases ry
    obtain ⟨hz, h⟩ := RdAt.ite h
    obtain ⟨hk, hz⟩ := Bool.and_eq_true_iff.mp hz
    obtain ⟨hk1, hk2⟩ := of_decide_eq_true hk
    refine op_rep pins s σ0 H _ _ u1 u2 Q I r1 r2 ⟨a, k, vs, rfl, rfl, ha, by omega, hk2, by rw [ra.length]; exact of_decide_eq_true hz, fun p hp => ?_⟩
    exact h.ret (S.alloc hp) (relV.newL S hp (ra.rep _))
theorem or_mod {W : WX} : OpR X (binaryOp .Mod) (rSem2 X.K ca W opMod) := by
  intro pins s σ0 H v w u1 u2 Q I r1 r2 ⟨c, M, σ, e, x, y, S, rx, ry, h⟩
  cases x <;> cases y <;> first | exact False.elim h | skip
  case int.int i j =>
    cases rx; cases ry
    obtain ⟨hz, h⟩ := RdAt.ite h
    exact op_mod pins s σ0 H _ _ u1 u2 Q I r1 r2 ⟨i, j, rfl, rfl, of_decide_eq_true hz, h.ret S ⟨rfl, trivial⟩⟩
theorem or_div {W : WX} : OpR X (binaryOp .FloorDiv) (rSem2 X.K ca W opDiv) := by
  intro pins s σ0 H v w u1 u2 Q I r1 r2 ⟨c, M, σ, e, x, y, S, rx, ry, h⟩
  cases x <;> cases y <;> first | exact False.elim h | skip
  case int.int i j =>
    cases rx; cases ry
    obtain ⟨hz, h⟩ := RdAt.ite h
    have hc := of_decide_eq_true hz
    exact op_fdiv pins s σ0 H _ _ u1 u2 Q I r1 r2 ⟨i, j, rfl, rfl, hc, h.ret S ⟨rfl, trivial⟩⟩
theorem or_pow {W : WX} : OpR X (binaryOp .Pow) (rSem2 X.K ca W opPow) := by
  intro pins s σ0 H v w u1 u2 Q I r1 r2 ⟨c, M, σ, e, x, y, S, rx, ry, h⟩
  cases x <;> cases y <;> first | exact False.elim h | skip
  case int.int i j =>
    cases rx; cases ry
    obtain ⟨hz, h⟩ := RdAt.ite h
    have hc := of_decide_eq_true hz
    exact op_pow pins s σ0 H _ _ u1 u2 Q I r1 r2 ⟨i, j, rfl, rfl, hc, h.ret S ⟨rfl, trivial⟩⟩
def opB : Operator → PV → PV → EM RV
  | .Add => opAdd
  | .Sub => opSub
  | .Mult => opMul
  | .Mod => opMod
  | .FloorDiv => opDiv
  | .Pow => opPow
  | _ => fun _ _ => EM.bad
theorem or_bin {W : WX} (op : Operator) : OpR X (binaryOp op) (rSem2 X.K ca W (opB op)) := by
  cases op <;> first | exact or_add | exact or_sub | exact or_mul | exact or_mod | exact or_div | exact or_pow | (intro pins s σ0 H v w u1 u2 Q I r1 r2 ⟨c, M, σ, e, x, y, S, rx, ry, h⟩; exact False.elim h)
/-- two operands, then a meaning by values -/
def two {α : Type} (ma mb : EM Opd) (f : PV → PV → EM α) : EM α := ma.bind fun a => mb.bind fun b => (lookM a).bind fun x => (lookM b).bind fun y => f x y
theorem two_op {W : WX} {ma mb : EM Opd} {f : PV → PV → EM RV} {σ : St} {H : Hp} {Q : VK} (h : Rd X.K ca (two ma mb f) (relV X.K ca) W σ H Q) :
    tOp (rSem2 X.K ca W f) (Rd X.K ca ma (relO X.K ca) W) (Rd X.K ca mb (relO X.K ca) W) σ H Q := by
  obtain ⟨c, M, e, S, q⟩ := h
  refine RdAt.bind q S fun a v H1 M1 e1 S1 _ _ r1 q1 => ?_
  refine RdAt.bind q1 S1 fun b w H2 M2 e2 S2 sm _ r2 q2 => ?_
  obtain ⟨x, _, rx, q3⟩ := q2.lookM (c' := c) (e' := e2) S2 (relO.mono r1 sm)
  obtain ⟨y, _, ry, q4⟩ := q3.lookM S2 r2
  exact ⟨c, M2, σ, e2, x, y, S2, rx, ry, q4⟩
theorem je_bin {a b : Expr} {ma mb : EM Opd} {op : Operator} {pos : Pos} (ha : JO X ca ma a) (hb : JO X ca mb b) : JE X ca (two ma mb (opB op)) (.BinOp a op b pos) := fun W tk =>
  PE.imp (pe_op (or_bin op) (ha W tk) (hb W tk)) fun σ H Q h => two_op h
/-- -a -/
def opNeg : PV → EM RV
  | .int i => EM.ret (.val (.int (-i)))
  | _ => EM.bad
def one {α : Type} (ma : EM Opd) (f : PV → EM α) : EM α := ma.bind fun a => (lookM a).bind fun x => f x
theorem je_neg {a : Expr} {ma : EM Opd} {pos : Pos} (ha : JO X ca ma a) : JE X ca (one ma opNeg) (.UnaryOp .USub a pos) := fun W tk =>
  PE.imp (pe_un un_neg (ha W tk)) fun σ H Q ⟨c, M, e, S, q⟩ => RdAt.bind q S fun a v H1 M1 e1 S1 _ _ r1 q1 => by
    obtain ⟨x, _, rx, q2⟩ := q1.lookM S1 r1
    cases x <;> first | exact False.elim q2 | skip
    case int =>
      cases rx
      exact ⟨_, rfl, q2.ret S1 ⟨rfl, trivial⟩⟩
end
end QB

namespace QB
open PySem L2

/-! ### data -/
mutual
def PV.data : PV → Option PyData
  | .non => some .none
  | .bl b => some (.bool b)
  | .int i => some (.int i)
  | .str x => some (.str x)
  | .tup xs => (datas xs).map .tuple
  | .lst xs => (datas xs).map .list
  | .rdl xs => (datas xs).map .list
  | .ins _ _ _ => none
  | .dct _ _ => none
  | .cls _ => none
def datas : List PV → Option (List PyData)
  | [] => some []
  | x :: xs => match PV.data x, datas xs with
    | some d, some ds => some (d :: ds)
    | _, _ => none
end
section
variable {K : PySem.W.Frag} {ca : CA} {G H : Hp}
mutual
theorem Rep.dp : ∀ {p : PV} {v : V} {d : PyData}, Rep K ca G p v → p.data = some d → Dp K G v d
  | .non, _, _, h, e => by cases h; cases e; exact .non
  | .bl b, _, _, h, e => by cases h; cases e; exact .bl b
  | .int i, _, _, h, e => by cases h; cases e; exact .int i
  | .str x, _, _, h, e => by cases h; cases e; exact .str x
  | .tup xs, _, d, h, e => by
    obtain ⟨a, vs, rfl, q, r⟩ := h
    unfold PV.data at e
    cases z : datas xs with
    | none => rw [z] at e; cases e
    | some ds => rw [z] at e; cases e; exact .tup q (Reps.dp r z)
  | .lst xs, _, d, h, e => by
    obtain ⟨a, vs, rfl, q, r⟩ := h
    unfold PV.data at e
    cases z : datas xs with
    | none => rw [z] at e; cases e
    | some ds => rw [z] at e; cases e; exact .lst (SqL.of q) (Reps.dp r z)
  | .rdl xs, _, d, h, e => by
    obtain ⟨a, vs, rfl, q, r⟩ := h
    unfold PV.data at e
    cases z : datas xs with
    | none => rw [z] at e; cases e
    | some ds => rw [z] at e; cases e; exact .lst q (Reps.dp r z)
  | .ins _ _ _, _, _, _, e => by cases e
  | .dct _ _, _, _, _, e => by cases e
  | .cls _, _, _, _, e => by cases e
theorem Reps.dp : ∀ {ps : List PV} {vs : List V} {ds : List PyData}, Reps K ca G ps vs → datas ps = some ds → DpAll K G vs ds
  | [], _, _, h, e => by cases h; cases e; exact .nil
  | x :: xs, _, _, h, e => by
    obtain ⟨v, r, rfl, h1, h2⟩ := h
    unfold datas at e
    cases z1 : x.data with
    | none => rw [z1] at e; cases e
    | some d =>
      cases z2 : datas xs with
      | none => rw [z1, z2] at e; cases e
      | some ds => rw [z1, z2] at e; cases e; exact .cons (Rep.dp h1 z1) (Reps.dp h2 z2)
end
end
def shp (d : PyData) : Bool := SeqAt.shaped d
def eqP (x y : PV) : Option Bool := match x.data, y.data with
  | some d, some f => if shp d && shp f then some (PyData.eqv d f) else none
  | _, _ => none
def retB (b : Bool) : EM RV := EM.ret (.val (.bl b))
def opEq (x y : PV) : EM RV := (EM.opt (eqP x y)).bind retB
def opNe (x y : PV) : EM RV := (EM.opt (eqP x y)).bind fun b => retB (!b)

section
variable {X : Cx} {ca : CA}
theorem RdAt.optB {K : PySem.W.Frag} {c : Fx} {α β γ : Type} {o : Option α} {f : α → EM γ} {rel : RelT γ β} {W : WX} {e : En} {σ : St} {Q : β → Hp → Prop} (h : RdAt K ca c ((EM.opt o).bind f) rel W e σ Q) : ∃ a, o = some a ∧ RdAt K ca c (f a) rel W e σ Q := by
  cases o with
  | none => exact False.elim h
  | some a => exact ⟨a, rfl, h⟩
theorem eqP_inv {x y : PV} {b : Bool} (h : eqP x y = some b) : ∃ d f, x.data = some d ∧ y.data = some f ∧ SeqAt.shaped d = true ∧ SeqAt.shaped f = true ∧ b = PyData.eqv d f := by
  unfold eqP at h
  cases z1 : x.data with
  | none => rw [z1] at h; cases h
  | some d =>
    cases z2 : y.data with
    | none => rw [z1, z2] at h; cases h
    | some f =>
      rw [z1, z2] at h
      dsimp only at h
      cases z : (shp d && shp f) with
      | false => rw [z] at h; cases h
      | true =>
        rw [z] at h
        cases h
        obtain ⟨h1, h2⟩ := Bool.and_eq_true_iff.mp z
        exact ⟨d, f, rfl, rfl, h1, h2, rfl⟩
theorem or_eq {W : WX} (hu : X.A.units + 64 < cLine) : OpR X (compareOp .Eq) (rSem2 X.K ca W opEq) := by
  intro pins s σ0 H v w u1 u2 Q I r1 r2 ⟨c, M, σ, e, x, y, S, rx, ry, h⟩
  obtain ⟨b, hb, h⟩ := RdAt.optB h
  obtain ⟨d, f, e1, e2, s1, s2, rfl⟩ := eqP_inv hb
  exact op_eqD hu pins s σ0 H v w u1 u2 Q I r1 r2 ⟨d, f, Rep.dp (rx.rep hid_same) e1, Rep.dp (ry.rep hid_same) e2, s1, s2, h.ret S ⟨rfl, trivial⟩⟩
theorem or_ne {W : WX} (hu : X.A.units + 64 < cLine) : OpR X (compareOp .NotEq) (rSem2 X.K ca W opNe) := by
  intro pins s σ0 H v w u1 u2 Q I r1 r2 ⟨c, M, σ, e, x, y, S, rx, ry, h⟩
  obtain ⟨b, hb, h⟩ := RdAt.optB h
  obtain ⟨d, f, e1, e2, s1, s2, rfl⟩ := eqP_inv hb
  exact op_neD hu pins s σ0 H v w u1 u2 Q I r1 r2 ⟨d, f, Rep.dp (rx.rep hid_same) e1, Rep.dp (ry.rep hid_same) e2, s1, s2, h.ret S ⟨rfl, trivial⟩⟩

/-! ### order -/
def intsOf : List PV → Option (List Int)
  | [] => some []
  | .int i :: r => (intsOf r).map (i :: ·)
  | _ :: _ => none
theorem intsOf_reps {K : PySem.W.Frag} {G : Hp} : ∀ {ps : List PV} {vs : List V} {ns : List Int}, Reps K ca G ps vs → intsOf ps = some ns → vs = ns.map V.int
  | [], _, _, h, e => by cases h; cases e; rfl
  | .int i :: r, _, ns, h, e => by
    obtain ⟨v, r', rfl, h1, h2⟩ := h
    unfold intsOf at e
    cases z : intsOf r with
    | none => rw [z] at e; cases e
    | some ms =>
      rw [z] at e
      cases e
      cases h1
      rw [intsOf_reps h2 z]
      rfl
  | .non :: r, _, _, _, e => by cases e
  | .bl _ :: r, _, _, _, e => by cases e
  | .str _ :: r, _, _, _, e => by cases e
  | .tup _ :: r, _, _, _, e => by cases e
  | .lst _ :: r, _, _, _, e => by cases e
  | .rdl _ :: r, _, _, _, e => by cases e
  | .ins _ _ _ :: r, _, _, _, e => by cases e
  | .dct _ _ :: r, _, _, _, e => by cases e
  | .cls _ :: r, _, _, _, e => by cases e
def leI (ns ms : List Int) : Bool := Ob.lexAt (fun j => decide (ns.getD j 0 = ms.getD j 0)) (fun j => decide (ns.getD j 0 ≤ ms.getD j 0)) (decide (ns.length ≤ ms.length)) 0 (min ns.length ms.length)
def gtI (ns ms : List Int) : Bool := Ob.lexAt (fun j => decide (ns.getD j 0 = ms.getD j 0)) (fun j => decide (ms.getD j 0 < ns.getD j 0)) (decide (ms.length < ns.length)) 0 (min ns.length ms.length)
def geI (ns ms : List Int) : Bool := Ob.lexAt (fun j => decide (ns.getD j 0 = ms.getD j 0)) (fun j => decide (ms.getD j 0 ≤ ns.getD j 0)) (decide (ms.length ≤ ns.length)) 0 (min ns.length ms.length)
def ordB (f : Int → Int → Bool) (g : List Int → List Int → Bool) (t : Str → Str → Bool) (x y : PV) : Option Bool := match x, y with
  | .int i, .int j => some (f i j)
  | .tup xs, .tup ys => match intsOf xs, intsOf ys with
    | some ns, some ms => some (g ns ms)
    | _, _ => none
  | .str a, .str b => some (t a b)
  | _, _ => none
def ltP : PV → PV → Option Bool := ordB (fun i j => decide (i < j)) HT.lexLt fun a b => decide (a.cps.toList < b.cps.toList)
def leP : PV → PV → Option Bool := ordB (fun i j => decide (i ≤ j)) leI fun a b => !decide (b.cps.toList < a.cps.toList)
def gtP : PV → PV → Option Bool := ordB (fun i j => decide (j < i)) gtI fun a b => decide (b.cps.toList < a.cps.toList)
def geP : PV → PV → Option Bool := ordB (fun i j => decide (j ≤ i)) geI fun a b => !decide (a.cps.toList < b.cps.toList)
def retO (o : Option Bool) : EM RV := (EM.opt o).bind retB
open PySem.Spec PyProof.Rows in
theorem op_gtT (hu : X.A.units < cLine) : OpR X (compareOp .Gt) (fun x y H Q => ∃ (a b : Addr) (ns ms : List Int), x = .ref a ∧ y = .ref b ∧ SqT X.K H a (ns.map V.int) ∧ SqT X.K H b (ms.map V.int) ∧ Q (.bl (gtI ns ms)) H) := by
  intro pins s σ H x y v u Q I rx ry h
  obtain ⟨a, b, ns, ms, rfl, rfl, ha, hb, q⟩ := h
  cases rx
  cases ry
  obtain ⟨its, r1, p1, _⟩ := I.tuple ha
  obtain ⟨its2, r2, p2, _⟩ := I.tuple hb
  have i1 : IntsAre its ns := Vals.ints r1
  have i2 : IntsAre its2 ms := Vals.ints r2
  have e1 : its.toArray.size = ns.length := by rw [List.size_toArray]; exact i1.length
  have e2 : its2.toArray.size = ms.length := by rw [List.size_toArray]; exact i2.length
  have at1 : ∀ j (h1 : j < its.toArray.size), ∃ t, its.toArray[j] = .int (ns.getD j 0) t := fun j h1 => PyProof.Rows.IntsAre.int_at i1 _ _ (by simp at h1; simp [h1])
  have at2 : ∀ j (h1 : j < its2.toArray.size), ∃ t, its2.toArray[j] = .int (ms.getD j 0) t := fun j h1 => PyProof.Rows.IntsAre.int_at i2 _ _ (by simp at h1; simp [h1])
  have R := Ob.RcOp.tuples_gt (A := X.A) (s := s) (e := fun j => decide (ns.getD j 0 = ms.getD j 0)) (r := fun j => decide (ms.getD j 0 < ns.getD j 0)) p1 p2 hu (fun j h1 h2 => by
    obtain ⟨t, et⟩ := at1 j h1
    obtain ⟨t', et'⟩ := at2 j h2
    rw [et, et']
    have z : (ns.getD j 0 == ms.getD j 0) = decide (ns.getD j 0 = ms.getD j 0) := by
      by_cases q : ns.getD j 0 = ms.getD j 0
      · rw [decide_eq_true q]; exact beq_iff_eq.mpr q
      · rw [decide_eq_false q]; exact beq_eq_false_iff_ne.mpr q
    rw [← z]
    exact SeqAt.EqAt.int_int _ _ _ _) (fun j h1 h2 _ => by
    obtain ⟨t, et⟩ := at1 j h1
    obtain ⟨t', et'⟩ := at2 j h2
    rw [et, et']
    exact Ob.RcOp.gt_int _ _ _ _)
  rw [e1, e2] at R
  have z : wpAny (model X.prog X.w) X.A (compareOp .Gt (.ref a) (.ref b)) (EP X pins σ Q) X.xe s := R X.prog X.w X.xe (EP X pins σ Q) ⟨.bl _, H, I, rfl, q⟩
  exact z
open PySem.Spec PyProof.Rows in
theorem op_geT (hu : X.A.units < cLine) : OpR X (compareOp .GtE) (fun x y H Q => ∃ (a b : Addr) (ns ms : List Int), x = .ref a ∧ y = .ref b ∧ SqT X.K H a (ns.map V.int) ∧ SqT X.K H b (ms.map V.int) ∧ Q (.bl (geI ns ms)) H) := by
  intro pins s σ H x y v u Q I rx ry h
  obtain ⟨a, b, ns, ms, rfl, rfl, ha, hb, q⟩ := h
  cases rx
  cases ry
  obtain ⟨its, r1, p1, _⟩ := I.tuple ha
  obtain ⟨its2, r2, p2, _⟩ := I.tuple hb
  have i1 : IntsAre its ns := Vals.ints r1
  have i2 : IntsAre its2 ms := Vals.ints r2
  have e1 : its.toArray.size = ns.length := by rw [List.size_toArray]; exact i1.length
  have e2 : its2.toArray.size = ms.length := by rw [List.size_toArray]; exact i2.length
  have at1 : ∀ j (h1 : j < its.toArray.size), ∃ t, its.toArray[j] = .int (ns.getD j 0) t := fun j h1 => PyProof.Rows.IntsAre.int_at i1 _ _ (by simp at h1; simp [h1])
  have at2 : ∀ j (h1 : j < its2.toArray.size), ∃ t, its2.toArray[j] = .int (ms.getD j 0) t := fun j h1 => PyProof.Rows.IntsAre.int_at i2 _ _ (by simp at h1; simp [h1])
  have R := Ob.RcOp.tuples_ge (A := X.A) (s := s) (e := fun j => decide (ns.getD j 0 = ms.getD j 0)) (r := fun j => decide (ms.getD j 0 ≤ ns.getD j 0)) p1 p2 hu (fun j h1 h2 => by
    obtain ⟨t, et⟩ := at1 j h1
    obtain ⟨t', et'⟩ := at2 j h2
    rw [et, et']
    have z : (ns.getD j 0 == ms.getD j 0) = decide (ns.getD j 0 = ms.getD j 0) := by
      by_cases q : ns.getD j 0 = ms.getD j 0
      · rw [decide_eq_true q]; exact beq_iff_eq.mpr q
      · rw [decide_eq_false q]; exact beq_eq_false_iff_ne.mpr q
    rw [← z]
    exact SeqAt.EqAt.int_int _ _ _ _) (fun j h1 h2 _ => by
    obtain ⟨t, et⟩ := at1 j h1
    obtain ⟨t', et'⟩ := at2 j h2
    rw [et, et']
    exact Ob.RcOp.ge_int _ _ _ _)
  rw [e1, e2] at R
  have z : wpAny (model X.prog X.w) X.A (compareOp .GtE (.ref a) (.ref b)) (EP X pins σ Q) X.xe s := R X.prog X.w X.xe (EP X pins σ Q) ⟨.bl _, H, I, rfl, q⟩
  exact z
theorem or_lt {W : WX} (hu : X.A.units + 64 < cLine) : OpR X (compareOp .Lt) (rSem2 X.K ca W fun x y => retO (ltP x y)) := by
  intro pins s σ0 H v w u1 u2 Q I r1 r2 ⟨c, M, σ, e, x, y, S, rx, ry, h⟩
  obtain ⟨b, hb, h⟩ := RdAt.optB h
  cases x <;> cases y <;> first | (cases hb; done) | skip
  case int.int i j =>
    cases rx; cases ry; cases hb
    exact op_lt pins s σ0 H _ _ u1 u2 Q I r1 r2 ⟨i, j, rfl, rfl, h.ret S ⟨rfl, trivial⟩⟩
  case str.str i j =>
    cases rx; cases ry; cases hb
    exact op_lt_str pins s σ0 H _ _ u1 u2 Q I r1 r2 ⟨i, j, rfl, rfl, h.ret S ⟨rfl, trivial⟩⟩
  case tup.tup xs ys =>
    obtain ⟨a, vs, rfl, ha, ra⟩ := rx
    obtain ⟨b', ws, rfl, hb', rb⟩ := ry
    unfold ltP ordB at hb
    cases z1 : intsOf xs with
    | none => simp only [z1] at hb; cases hb
    | some ns =>
      cases z2 : intsOf ys with
      | none => simp only [z1, z2] at hb; cases hb
      | some ms =>
        simp only [z1, z2] at hb
        cases hb
        have := intsOf_reps ra z1
        subst this
        have := intsOf_reps rb z2
        subst this
        exact op_ltT (by omega) pins s σ0 H _ _ u1 u2 Q I r1 r2 ⟨a, b', ns, ms, rfl, rfl, Same.sqT hid_same ha, Same.sqT hid_same hb', h.ret S ⟨rfl, trivial⟩⟩
theorem or_le {W : WX} (hu : X.A.units + 64 < cLine) : OpR X (compareOp .LtE) (rSem2 X.K ca W fun x y => retO (leP x y)) := by
  intro pins s σ0 H v w u1 u2 Q I r1 r2 ⟨c, M, σ, e, x, y, S, rx, ry, h⟩
  obtain ⟨b, hb, h⟩ := RdAt.optB h
  cases x <;> cases y <;> first | (cases hb; done) | skip
  case int.int i j =>
    cases rx; cases ry; cases hb
    exact op_le pins s σ0 H _ _ u1 u2 Q I r1 r2 ⟨i, j, rfl, rfl, h.ret S ⟨rfl, trivial⟩⟩
  case str.str i j =>
    cases rx; cases ry; cases hb
    exact op_le_str pins s σ0 H _ _ u1 u2 Q I r1 r2 ⟨i, j, rfl, rfl, h.ret S ⟨rfl, trivial⟩⟩
  case tup.tup xs ys =>
    obtain ⟨a, vs, rfl, ha, ra⟩ := rx
    obtain ⟨b', ws, rfl, hb', rb⟩ := ry
    unfold leP ordB at hb
    cases z1 : intsOf xs with
    | none => simp only [z1] at hb; cases hb
    | some ns =>
      cases z2 : intsOf ys with
      | none => simp only [z1, z2] at hb; cases hb
      | some ms =>
        simp only [z1, z2] at hb
        cases hb
        have := intsOf_reps ra z1
        subst this
        have := intsOf_reps rb z2
        subst this
        exact op_leT (by omega) pins s σ0 H _ _ u1 u2 Q I r1 r2 ⟨a, b', ns, ms, rfl, rfl, Same.sqT hid_same ha, Same.sqT hid_same hb', h.ret S ⟨rfl, trivial⟩⟩
theorem or_gt {W : WX} (hu : X.A.units + 64 < cLine) : OpR X (compareOp .Gt) (rSem2 X.K ca W fun x y => retO (gtP x y)) := by
  intro pins s σ0 H v w u1 u2 Q I r1 r2 ⟨c, M, σ, e, x, y, S, rx, ry, h⟩
  obtain ⟨b, hb, h⟩ := RdAt.optB h
  cases x <;> cases y <;> first | (cases hb; done) | skip
  case int.int i j =>
    cases rx; cases ry; cases hb
    exact op_gt pins s σ0 H _ _ u1 u2 Q I r1 r2 ⟨i, j, rfl, rfl, h.ret S ⟨rfl, trivial⟩⟩
  case str.str i j =>
    cases rx; cases ry; cases hb
    exact op_gt_str pins s σ0 H _ _ u1 u2 Q I r1 r2 ⟨i, j, rfl, rfl, h.ret S ⟨rfl, trivial⟩⟩
  case tup.tup xs ys =>
    obtain ⟨a, vs, rfl, ha, ra⟩ := rx
    obtain ⟨b', ws, rfl, hb', rb⟩ := ry
    unfold gtP ordB at hb
    cases z1 : intsOf xs with
    | none => simp only [z1] at hb; cases hb
    | some ns =>
      cases z2 : intsOf ys with
      | none => simp only [z1, z2] at hb; cases hb
      | some ms =>
        simp only [z1, z2] at hb
        cases hb
        have := intsOf_reps ra z1
        subst this
        have := intsOf_reps rb z2
        subst this
        exact op_gtT (by omega) pins s σ0 H _ _ u1 u2 Q I r1 r2 ⟨a, b', ns, ms, rfl, rfl, Same.sqT hid_same ha, Same.sqT hid_same hb', h.ret S ⟨rfl, trivial⟩⟩
theorem or_ge {W : WX} (hu : X.A.units + 64 < cLine) : OpR X (compareOp .GtE) (rSem2 X.K ca W fun x y => retO (geP x y)) := by
  intro pins s σ0 H v w u1 u2 Q I r1 r2 ⟨c, M, σ, e, x, y, S, rx, ry, h⟩
  obtain ⟨b, hb, h⟩ := RdAt.optB h
  cases x <;> cases y <;> first | (cases hb; done) | skip
  case int.int i j =>
    cases rx; cases ry; cases hb
    exact op_ge pins s σ0 H _ _ u1 u2 Q I r1 r2 ⟨i, j, rfl, rfl, h.ret S ⟨rfl, trivial⟩⟩
  case str.str i j =>
    cases rx; cases ry; cases hb
    exact op_ge_str pins s σ0 H _ _ u1 u2 Q I r1 r2 ⟨i, j, rfl, rfl, h.ret S ⟨rfl, trivial⟩⟩
  case tup.tup xs ys =>
    obtain ⟨a, vs, rfl, ha, ra⟩ := rx
    obtain ⟨b', ws, rfl, hb', rb⟩ := ry
    unfold geP ordB at hb
    cases z1 : intsOf xs with
    | none => simp only [z1] at hb; cases hb
    | some ns =>
      cases z2 : intsOf ys with
      | none => simp only [z1, z2] at hb; cases hb
      | some ms =>
        simp only [z1, z2] at hb
        cases hb
        have := intsOf_reps ra z1
        subst this
        have := intsOf_reps rb z2
        subst this
        exact op_geT (by omega) pins s σ0 H _ _ u1 u2 Q I r1 r2 ⟨a, b', ns, ms, rfl, rfl, Same.sqT hid_same ha, Same.sqT hid_same hb', h.ret S ⟨rfl, trivial⟩⟩

/-! ### is -/
def isNon : PV → Bool
  | .non => true
  | _ => false
def isP (x y : PV) : Option Bool := match y with
  | .non => some (isNon x)
  | .bl b => match x with
    | .bl a => some (decide (a = b))
    | _ => none
  | _ => none
theorem isNon_v {K : PySem.W.Frag} {G H : Hp} {x : PV} {v : V} (r : RepT K ca G H x v) : decide (v = .non) = isNon x := by
  cases x with
  | non => cases r; rfl
  | bl _ => cases r; rfl
  | int _ => cases r; rfl
  | str _ => cases r; rfl
  | tup _ => obtain ⟨a, vs, rfl, _⟩ := r; rfl
  | lst _ => obtain ⟨a, vs, rfl, _⟩ := r; rfl
  | rdl _ => obtain ⟨a, vs, rfl, _⟩ := r; rfl
  | ins _ _ _ => obtain ⟨a, dx, fs, rfl, _⟩ := r; rfl
  | dct _ _ => obtain ⟨a, kvs, rfl, _⟩ := r; rfl
  | cls _ => cases r; rfl
theorem or_is {W : WX} : OpR X (compareOp .Is) (rSem2 X.K ca W fun x y => retO (isP x y)) := by
  intro pins s σ0 H v w u1 u2 Q I r1 r2 ⟨c, M, σ, e, x, y, S, rx, ry, h⟩
  obtain ⟨b, hb, h⟩ := RdAt.optB h
  cases y <;> first | (cases hb; done) | skip
  case non =>
    cases ry; cases hb
    exact op_isN pins s σ0 H _ _ u1 u2 Q I r1 r2 ⟨rfl, by rw [isNon_v rx]; exact h.ret S ⟨rfl, trivial⟩⟩
  case bl k =>
    cases x <;> first | (cases hb; done) | skip
    case bl a =>
      cases rx; cases ry; cases hb
      exact op_is_bl pins s σ0 H _ _ u1 u2 Q I r1 r2 ⟨a, k, rfl, rfl, h.ret S ⟨rfl, trivial⟩⟩
theorem or_isnot {W : WX} : OpR X (compareOp .IsNot) (rSem2 X.K ca W fun x y => retO ((isP x y).map (!·))) := by
  intro pins s σ0 H v w u1 u2 Q I r1 r2 ⟨c, M, σ, e, x, y, S, rx, ry, h⟩
  obtain ⟨b, hb, h⟩ := RdAt.optB h
  cases y <;> first | (cases hb; done) | skip
  case non =>
    cases ry; cases hb
    exact op_notN pins s σ0 H _ _ u1 u2 Q I r1 r2 ⟨rfl, by rw [isNon_v rx]; exact h.ret S ⟨rfl, trivial⟩⟩
  case bl k =>
    cases x <;> first | (cases hb; done) | skip
    case bl a =>
      cases rx; cases ry; cases hb
      exact op_isnot_bl pins s σ0 H _ _ u1 u2 Q I r1 r2 ⟨a, k, rfl, rfl, h.ret S ⟨rfl, trivial⟩⟩
end
end QB

namespace QB
open PySem L2

/-! ### in -/
def flatP : PV → Bool
  | .non => true
  | .bl _ => true
  | .int _ => true
  | .str _ => true
  | _ => false
def inP (x y : PV) : Option Bool := match y with
  | .lst ys => match x.data, datas ys with
    | some d, some ds => if shp d && shp (.list ds) then some (ds.any fun z => PyData.eqv z d) else none
    | _, _ => none
  | .rdl ys => match x.data, datas ys with
    | some d, some ds => if shp d && shp (.list ds) then some (ds.any fun z => PyData.eqv z d) else none
    | _, _ => none
  | .tup ys => if flatP x && ys.all flatP then (match x.data, datas ys with
    | some d, some ds => some (ds.any fun z => PyData.eqv z d)
    | _, _ => none) else none
  | .str z => match x with
    | .str y => match y.cps.toList with
      | [c] => some (decide (c ∈ z.cps.toList))
      | _ => some (!(Builtin.Str.occurrences z y 0 z.length 1).isEmpty)
    | _ => none
  | _ => none
section
variable {X : Cx} {ca : CA} {K : PySem.W.Frag} {G H : Hp}
theorem flat_rep {p : PV} {v : V} (f : flatP p = true) (r : Rep K ca G p v) : flatV v = true := by
  cases p <;> first | (cases f; done) | (cases r; rfl)
theorem flats_rep : ∀ {ps : List PV} {vs : List V}, ps.all flatP = true → Reps K ca G ps vs → vs.all flatV = true
  | [], _, _, h => by cases h; rfl
  | x :: xs, _, f, h => by
    obtain ⟨v, r, rfl, h1, h2⟩ := h
    rw [List.all_cons, Bool.and_eq_true] at f
    rw [List.all_cons, flat_rep f.1 h1, flats_rep f.2 h2]
    rfl
theorem eqV_data {p q : PV} {v w : V} {d f : PyData} (hp : flatP p = true) (hq : flatP q = true) (r : Rep K ca G p v) (r' : Rep K ca G q w) (e : p.data = some d) (e' : q.data = some f) : eqV v w = PyData.eqv d f := by
  cases p <;> first | (cases hp; done) | skip
  all_goals (cases q <;> first | (cases hq; done) | skip)
  all_goals (cases r; cases r'; cases e; cases e'; first | rfl | (simp [eqV, PyData.eqv]))
theorem any_data {p : PV} {v : V} {d : PyData} (hp : flatP p = true) (r : Rep K ca G p v) (e : p.data = some d) : ∀ {ps : List PV} {vs : List V} {ds : List PyData}, ps.all flatP = true → Reps K ca G ps vs → datas ps = some ds → inV v vs = ds.any fun z => PyData.eqv z d
  | [], _, _, _, h, e => by cases h; cases e; rfl
  | x :: xs, _, ds, f, h, e' => by
    obtain ⟨w, r', rfl, h1, h2⟩ := h
    rw [List.all_cons, Bool.and_eq_true] at f
    unfold datas at e'
    cases z1 : x.data with
    | none => rw [z1] at e'; cases e'
    | some d1 =>
      cases z2 : datas xs with
      | none => rw [z1, z2] at e'; cases e'
      | some ds1 =>
        rw [z1, z2] at e'
        cases e'
        have ih := any_data hp r e f.2 h2 z2
        unfold inV at ih ⊢
        rw [List.any_cons, List.any_cons, ih, eqV_data f.1 hp h1 r z1 e]
theorem or_in {W : WX} (hu : X.A.units + 65 < cLine) (neg : Bool) : OpR X (compareOp (if neg then .NotIn else .In)) (rSem2 X.K ca W fun x y => retO ((inP x y).map fun b => if neg then !b else b)) := by
  intro pins s σ0 H v w u1 u2 Q I r1 r2 ⟨c, M, σ, e, x, y, S, rx, ry, h⟩
  obtain ⟨b, hb, h⟩ := RdAt.optB h
  cases hi : inP x y with
  | none => rw [hi] at hb; cases hb
  | some b0 =>
    rw [hi] at hb
    cases hb
    have deep : ∀ {ys : List PV} {d : PyData} {ds : List PyData} {k : Bool}, Dp X.K H w (.list ds) → x.data = some d → (if (shp d && shp (.list ds)) = true then some (ds.any fun z => PyData.eqv z d) else none) = some k → b0 = k →
        wpAny (model X.prog X.w) X.A (compareOp (if neg then .NotIn else .In) u1 u2) (EP X pins σ0 Q) X.xe s := fun {ys d ds k} hy ed hk ek => by
      cases z : (shp d && shp (.list ds)) with
      | false => rw [z] at hk; cases hk
      | true =>
        rw [z] at hk
        cases hk
        subst ek
        obtain ⟨h1, h2⟩ := Bool.and_eq_true_iff.mp z
        have hd := Rep.dp (rx.rep hid_same) ed
        cases neg with
        | false => exact op_inD hu pins s σ0 H v w u1 u2 Q I r1 r2 ⟨d, ds, hd, hy, h1, h2, h.ret S ⟨rfl, trivial⟩⟩
        | true => exact op_notInD hu pins s σ0 H v w u1 u2 Q I r1 r2 ⟨d, ds, hd, hy, h1, h2, h.ret S ⟨rfl, trivial⟩⟩
    cases y <;> first | (cases hi; done) | skip
    case lst ys =>
      unfold inP at hi
      cases z1 : x.data with
      | none => simp only [z1] at hi; cases hi
      | some d =>
        cases z2 : datas ys with
        | none => simp only [z1, z2] at hi; cases hi
        | some ds =>
          simp only [z1, z2] at hi
          refine deep (ys := ys) (Rep.dp (p := .lst ys) (ry.rep hid_same) ?_) z1 hi rfl
          unfold PV.data
          rw [z2]; rfl
    case rdl ys =>
      unfold inP at hi
      cases z1 : x.data with
      | none => simp only [z1] at hi; cases hi
      | some d =>
        cases z2 : datas ys with
        | none => simp only [z1, z2] at hi; cases hi
        | some ds =>
          simp only [z1, z2] at hi
          refine deep (ys := ys) (Rep.dp (p := .rdl ys) (ry.rep hid_same) ?_) z1 hi rfl
          unfold PV.data
          rw [z2]; rfl
    case tup ys =>
      unfold inP at hi
      dsimp only at hi
      cases z : (flatP x && ys.all flatP) with
      | false => rw [z] at hi; cases hi
      | true =>
        rw [z] at hi
        obtain ⟨f1, f2⟩ := Bool.and_eq_true_iff.mp z
        obtain ⟨a, vs, rfl, ha, ra⟩ := ry
        have rx' : Rep X.K ca H x v := rx.rep hid_same
        have ra' : Reps X.K ca H ys vs := ra.mono hid_same
        cases z1 : x.data with
        | none => simp only [z1] at hi; cases hi
        | some d =>
          cases z2 : datas ys with
          | none => simp only [z1, z2] at hi; cases hi
          | some ds =>
            simp only [z1, z2, if_true] at hi
            cases hi
            have ea := any_data f1 rx' z1 f2 ra' z2
            cases neg with
            | false => exact op_in_seq pins s σ0 H v _ u1 u2 Q I r1 r2 ⟨a, vs, rfl, .inr (Same.sqT hid_same ha), flat_rep f1 rx', flats_rep f2 ra', by rw [ea]; exact h.ret S ⟨rfl, trivial⟩⟩
            | true => exact op_notIn_seq pins s σ0 H v _ u1 u2 Q I r1 r2 ⟨a, vs, rfl, .inr (Same.sqT hid_same ha), flat_rep f1 rx', flats_rep f2 ra', by rw [ea]; exact h.ret S ⟨rfl, trivial⟩⟩
    case str z =>
      cases x <;> first | (cases hi; done) | skip
      case str y =>
        cases rx; cases ry
        have one : ∀ {c : Nat}, y.cps.toList = [c] → y = ⟨#[c]⟩ := fun {c} q => by
          obtain ⟨l⟩ := y
          have : l = #[c] := by
            have e := congrArg List.toArray q
            simpa using e
          rw [this]
        unfold inP at hi
        dsimp only at hi
        split at hi
        · rename_i cc q
          cases hi
          have ey := one q
          subst ey
          cases neg with
          | false => exact op_in_sign pins s σ0 H _ _ u1 u2 Q I r1 r2 ⟨cc, z, rfl, rfl, h.ret S ⟨rfl, trivial⟩⟩
          | true => exact op_notIn_sign pins s σ0 H _ _ u1 u2 Q I r1 r2 ⟨cc, z, rfl, rfl, h.ret S ⟨rfl, trivial⟩⟩
        · cases hi
          cases neg with
          | false => exact op_in_str pins s σ0 H _ _ u1 u2 Q I r1 r2 ⟨y, z, rfl, rfl, h.ret S ⟨rfl, trivial⟩⟩
          | true => exact op_notin_str pins s σ0 H _ _ u1 u2 Q I r1 r2 ⟨y, z, rfl, rfl, h.ret S ⟨rfl, trivial⟩⟩

/-! ### a comparison -/
def opC : CmpOp → PV → PV → EM RV
  | .Eq => opEq
  | .NotEq => opNe
  | .Lt => fun x y => retO (ltP x y)
  | .LtE => fun x y => retO (leP x y)
  | .Gt => fun x y => retO (gtP x y)
  | .GtE => fun x y => retO (geP x y)
  | .Is => fun x y => retO (isP x y)
  | .IsNot => fun x y => retO ((isP x y).map (!·))
  | .In => fun x y => retO (inP x y)
  | .NotIn => fun x y => retO ((inP x y).map (!·))
theorem or_cmp {W : WX} (hu : X.A.units + 65 < cLine) (op : CmpOp) : OpR X (compareOp op) (rSem2 X.K ca W (opC op)) := by
  cases op
  · exact or_eq (by omega)
  · exact or_ne (by omega)
  · exact or_lt (by omega)
  · exact or_le (by omega)
  · exact or_gt (by omega)
  · exact or_ge (by omega)
  · exact or_is
  · exact or_isnot
  · have h := or_in (X := X) (ca := ca) (W := W) hu false
    simp only [Bool.false_eq_true, if_false, Option.map_id'] at h
    exact h
  · have h := or_in (X := X) (ca := ca) (W := W) hu true
    simp only [if_true] at h
    exact h
theorem je_cmp {a b : Expr} {ma mb : EM Opd} {op : CmpOp} {pos : Pos} (hu : X.A.units + 65 < cLine) (hm : behindInMarks op b = false) (ha : JO X ca ma a) (hb : JO X ca mb b) : JE X ca (two ma mb (opC op)) (.Compare a [op] [b] pos) := fun W tk =>
  PE.imp (pe_cmpR (or_cmp hu op) (ha W tk) (hb W tk) hm) fun σ H Q h => two_op h
/-- the value of a test -/
def boolM (m : EM RV) : EM Bool := m.bind fun r => match r.pv with
  | .bl b => EM.ret b
  | _ => EM.bad
theorem bool_at {W : WX} {m : EM RV} {c : Fx} {M : Addr → Prop} {e : En} {σ : St} {H : Hp} {Q : Bool → Hp → Prop} (q : RdAt X.K ca c (boolM m) relB W e σ Q) (S : Sim X.K ca c M σ H e) : RdAt X.K ca (Fx.at M σ H e c.par) m (relV X.K ca) W e σ fun v H1 => ∃ k, v = .bl k ∧ Q k H1 := by
  refine RdAt.bindAt q S fun r v H1 M1 e1 S1 _ _ rr q1 => ?_
  have rp := rr.1
  cases z : r.pv with
  | bl b =>
    rw [z] at rp
    simp only [z] at q1
    exact ⟨b, rp, q1.ret S1 rfl⟩
  | _ => simp only [z] at q1; exact False.elim q1
theorem bool_op {W : WX} {m : EM RV} {σ : St} {H : Hp} {Q : Bool → Hp → Prop} (h : Rd X.K ca (boolM m) relB W σ H Q) : Rd X.K ca m (relV X.K ca) W σ H fun v H1 => ∃ k, v = .bl k ∧ Q k H1 := by
  obtain ⟨c, M, e, S, q⟩ := h
  exact ⟨_, M, e, S.here, bool_at q S⟩
theorem jt_cmp {a b : Expr} {ma mb : EM Opd} {op : CmpOp} {pos : Pos} (hu : X.A.units + 65 < cLine) (hm : behindInMarks op b = false) (ha : JO X ca ma a) (hb : JO X ca mb b) : JT X ca (boolM (two ma mb (opC op))) (.Compare a [op] [b] pos) := fun W tk =>
  PT.imp (pt_cmpR (or_cmp hu op) (ha W tk) (hb W tk) hm) fun σ H Q h => two_op (bool_op h)
/-- any value as a test -/
def truP : PV → Option Bool
  | .non => some false
  | .bl b => some b
  | .int i => some (i != 0)
  | .str x => if szOk x.length then some (x.length != 0) else none
  | .tup xs => some (!xs.isEmpty)
  | .lst xs => some (!xs.isEmpty)
  | .rdl xs => some (!xs.isEmpty)
  | .dct ks _ => some (!ks.isEmpty)
  | .ins _ _ _ => none
  | .cls _ => none
theorem isEmpty_len {α β : Type} {xs : List α} {ys : List β} (h : ys.length = xs.length) : (!xs.isEmpty) = !ys.isEmpty := by
  cases xs <;> cases ys <;> first | rfl | cases h
theorem tru_v {p : PV} {v : V} {k : Bool} (r : Rep K ca H p v) (h : truP p = some k) : TruV K v H k := by
  cases p with
  | non => cases r; cases h; rfl
  | bl b => cases r; cases h; rfl
  | int i => cases r; cases h; rfl
  | str x =>
    cases r
    unfold truP at h
    cases z : szOk x.length with
    | false => simp [z] at h
    | true =>
      simp only [z, if_true] at h
      cases h
      refine ⟨of_decide_eq_true z, ?_⟩
      by_cases q : x.length = 0
      · simp [q]
      · have : ((x.length : Int) != 0) = true := by simp; omega
        rw [this]; simp [q]
  | tup xs => obtain ⟨a, vs, rfl, q, rr⟩ := r; cases h; exact .inr (.inl ⟨vs, q, isEmpty_len rr.length⟩)
  | lst xs => obtain ⟨a, vs, rfl, q, rr⟩ := r; cases h; exact .inl ⟨vs, SqL.of q, isEmpty_len rr.length⟩
  | rdl xs => obtain ⟨a, vs, rfl, q, rr⟩ := r; cases h; exact .inl ⟨vs, q, isEmpty_len rr.length⟩
  | ins _ _ _ => cases h
  | cls _ => cases h
  | dct ks xs =>
    obtain ⟨a, kvs, rfl, q, e, rr⟩ := r
    cases h
    refine .inr (.inr ⟨kvs, q, isEmpty_len ?_⟩)
    rw [← e, List.length_map]
def truM (m : EM Opd) : EM Bool := one m fun p => EM.opt (truP p)
theorem jt_tru {a : Expr} {m : EM Opd} (ha : JO X ca m a) (he : ∀ whole, isTrue a X.env whole = (do let v ← whole; standAt a.pos; holding [v] (truthy v))) : JT X ca (truM m) a := fun W tk =>
  PT.imp (pt_truth (ha W tk) he) fun σ H Q ⟨c, M, e, S, q⟩ => RdAt.bind q S fun o v H1 M1 e1 S1 _ _ r1 q1 => by
    obtain ⟨p, _, rp, q2⟩ := q1.lookM S1 r1
    obtain ⟨k, hk, q3⟩ := q2.opt
    exact ⟨k, tru_v (rp.rep hid_same) hk, q3.ret S1 rfl⟩
/-- and, or, not -/
def andT (a b : EM Bool) : EM Bool := a.bind fun c => if c then b else EM.ret false
def orT (a b : EM Bool) : EM Bool := a.bind fun c => if c then EM.ret true else b
def notT (a : EM Bool) : EM Bool := a.bind fun c => EM.ret (!c)
theorem jw_and1 {a : Expr} {m : EM Bool} {pos : Pos} (h : JT X ca m a) : JW X ca m (.BoolOp .And [a] pos) := fun W tk => pw_and1 (h W tk)
theorem jw_or1 {a : Expr} {m : EM Bool} {pos : Pos} (h : JT X ca m a) : JW X ca m (.BoolOp .Or [a] pos) := fun W tk => pw_or1 (h W tk)
theorem jw_and {a b : Expr} {rest : List Expr} {m n : EM Bool} {pos : Pos} (h : JT X ca m a) (h' : JW X ca n (.BoolOp .And (b :: rest) pos)) : JW X ca (andT m n) (.BoolOp .And (a :: b :: rest) pos) := fun W tk =>
  PW.imp (pw_and (h W tk) (h' W tk)) fun σ H Q ⟨c, M, e, S, q⟩ => RdAt.bind q S fun a b H1 M1 e1 S1 _ _ r1 q1 => by
    cases r1
    cases a with
    | true => exact ⟨c, M1, e1, S1, q1⟩
    | false => exact q1.ret S1 rfl
theorem jw_or {a b : Expr} {rest : List Expr} {m n : EM Bool} {pos : Pos} (h : JT X ca m a) (h' : JW X ca n (.BoolOp .Or (b :: rest) pos)) : JW X ca (orT m n) (.BoolOp .Or (a :: b :: rest) pos) := fun W tk =>
  PW.imp (pw_or (h W tk) (h' W tk)) fun σ H Q ⟨c, M, e, S, q⟩ => RdAt.bind q S fun a b H1 M1 e1 S1 _ _ r1 q1 => by
    cases r1
    cases a with
    | false => exact ⟨c, M1, e1, S1, q1⟩
    | true => exact q1.ret S1 rfl
theorem jt_of_w {a : Expr} {m : EM Bool} (h : JW X ca m a) : JT X ca m a := fun W tk => (h W tk).pt
theorem jt_not {a : Expr} {m : EM Bool} {pos : Pos} (h : JT X ca m a) : JT X ca (notT m) (.UnaryOp .Not a pos) := fun W tk =>
  PT.imp (pt_not (h W tk)) fun σ H Q ⟨c, M, e, S, q⟩ => RdAt.bind q S fun a b H1 M1 e1 S1 _ _ r1 q1 => by
    cases r1
    exact q1.ret S1 rfl
/-- as values: all but the last are True or False -/
def andV (a b : EM RV) : EM RV := (boolM a).bind fun c => if c then b else EM.ret (.val (.bl false))
def orV (a b : EM RV) : EM RV := (boolM a).bind fun c => if c then EM.ret (.val (.bl true)) else b
theorem je_one {a : Expr} {op} {m : EM RV} {pos : Pos} (h : JE X ca m a) : JE X ca m (.BoolOp op [a] pos) := fun W tk => pe_one (h W tk)
theorem je_and {a b : Expr} {rest : List Expr} {m n : EM RV} {pos : Pos} (h : JE X ca m a) (h' : JE X ca n (.BoolOp .And (b :: rest) pos)) : JE X ca (andV m n) (.BoolOp .And (a :: b :: rest) pos) := fun W tk =>
  PE.imp (pe_and (h W tk) (h' W tk)) fun σ H Q ⟨c, M, e, S, q⟩ => bool_op (RdAt.bind q S fun a b H1 M1 e1 S1 _ _ r1 q1 => by
    cases r1
    cases a with
    | true => exact ⟨c, M1, e1, S1, q1⟩
    | false => exact q1.ret S1 ⟨rfl, trivial⟩)
theorem je_or {a b : Expr} {rest : List Expr} {m n : EM RV} {pos : Pos} (h : JE X ca m a) (h' : JE X ca n (.BoolOp .Or (b :: rest) pos)) : JE X ca (orV m n) (.BoolOp .Or (a :: b :: rest) pos) := fun W tk =>
  PE.imp (pe_or (h W tk) (h' W tk)) fun σ H Q ⟨c, M, e, S, q⟩ => bool_op (RdAt.bind q S fun a b H1 M1 e1 S1 _ _ r1 q1 => by
    cases r1
    cases a with
    | false => exact ⟨c, M1, e1, S1, q1⟩
    | true => exact q1.ret S1 ⟨rfl, trivial⟩)
def notV (m : EM Opd) : EM RV := (truM m).bind fun b => EM.ret (.val (.bl (!b)))
theorem je_not {a : Expr} {m : EM Opd} {pos : Pos} (ha : JO X ca m a) : JE X ca (notV m) (.UnaryOp .Not a pos) := fun W tk =>
  PE.imp (pe_notT (ha W tk)) fun σ H Q ⟨c, M, e, S, q⟩ => by
    have q0 : RdAt X.K ca c (m.bind fun o => ((lookM o).bind fun p => EM.opt (truP p)).bind fun b => EM.ret (.val (.bl (!b)))) (relV X.K ca) W e σ Q := by
      have : notV m = m.bind fun o => ((lookM o).bind fun p => EM.opt (truP p)).bind fun b => EM.ret (.val (.bl (!b))) := by
        funext e
        unfold notV truM one EM.bind
        cases m e <;> rfl
      rw [← this]
      exact q
    exact RdAt.bind q0 S fun o v H1 M1 e1 S1 _ _ r1 q1 => by
      have q1' : RdAt X.K ca c ((lookM o).bind fun p => (EM.opt (truP p)).bind fun b => EM.ret (.val (.bl (!b)))) (relV X.K ca) W e1 σ Q := by
        have : ((lookM o).bind fun p => (EM.opt (truP p)).bind fun b => EM.ret (RV.val (.bl (!b)))) = (((lookM o).bind fun p => EM.opt (truP p)).bind fun b => EM.ret (RV.val (.bl (!b)))) := by
          funext e
          unfold EM.bind
          cases lookM o e <;> rfl
        rw [this]
        exact q1
      obtain ⟨p, _, rp, q2⟩ := q1'.lookM S1 r1
      obtain ⟨k, hk, q3⟩ := RdAt.optB q2
      exact ⟨k, tru_v (rp.rep hid_same) hk, q3.ret S1 ⟨rfl, trivial⟩⟩
/-- a if t else b -/
def iteM {α : Type} (t : EM Bool) (a b : EM α) : EM α := t.bind fun c => if c then a else b
theorem je_if {t a b : Expr} {mt : EM Bool} {ma mb : EM RV} {pos : Pos} (ht : JT X ca mt t) (ha : JE X ca ma a) (hb : JE X ca mb b) : JE X ca (iteM mt ma mb) (.IfExp t a b pos) := fun W tk =>
  PE.imp (pe_ifExp (ht W tk) (ha W tk) (hb W tk)) fun σ H Q ⟨c, M, e, S, q⟩ => RdAt.bind q S fun a b H1 M1 e1 S1 _ _ r1 q1 => by
    cases r1
    cases a with
    | true => exact ⟨c, M1, e1, S1, q1⟩
    | false => exact ⟨c, M1, e1, S1, q1⟩
end
end QB

namespace QB
open PySem L2
section
variable {X : Cx} {ca : CA} {K : PySem.W.Frag} {G H : Hp}

/-! ### a chain of two comparisons -/
def chainM (ma mb mc : EM Opd) (op op' : CmpOp) : EM RV := ma.bind fun a => mb.bind fun b => (lookM a).bind fun x => (lookM b).bind fun y => (boolM (opC op x y)).bind fun k =>
  if k then mc.bind fun d => (lookM b).bind fun y => (lookM d).bind fun z => opC op' y z else EM.ret (.val (.bl false))
theorem chain_op {W : WX} {ma mb mc : EM Opd} {op op' : CmpOp} {σ : St} {H : Hp} {Q : VK} (h : Rd X.K ca (chainM ma mb mc op op') (relV X.K ca) W σ H Q) :
    tChain (rSem2 X.K ca W (opC op)) (rSem2 X.K ca W (opC op')) (Rd X.K ca ma (relO X.K ca) W) (Rd X.K ca mb (relO X.K ca) W) (Rd X.K ca mc (relO X.K ca) W) σ H Q := by
  obtain ⟨c, M, e, S, q⟩ := h
  refine RdAt.bind q S fun a v H1 M1 e1 S1 _ _ r1 q1 => ?_
  refine RdAt.bind q1 S1 fun b w H2 M2 e2 S2 sm _ r2 q2 => ?_
  obtain ⟨x, _, rx, q3⟩ := q2.lookM (c' := c) (e' := e2) S2 (relO.mono r1 sm)
  obtain ⟨y, _, ry, q4⟩ := q3.lookM S2 r2
  have q5 := RdAt.bindAt (rel1 := relB) (P := fun k H3 => if k = true then Rd X.K ca mc (relO X.K ca) W σ H3 fun u H4 => rSem2 X.K ca W (opC op') w u H4 Q else Q (.bl false) H3) q4 S2 fun k k' H3 M3 e3 S3 sm3 _ r3 q4 => by
    cases r3
    cases k with
    | false => exact q4.ret S3 ⟨rfl, trivial⟩
    | true =>
      refine RdAt.bind q4 S3 fun d u H4 M4 e4 S4 sm4 _ r4 q5 => ?_
      obtain ⟨y', _, ry, q6⟩ := q5.lookM (c' := c) (e' := e4) S4 (relO.mono (relO.mono (c' := c) (e' := e3) r2 sm3) sm4)
      obtain ⟨z, _, rz, q7⟩ := q6.lookM S4 r4
      exact ⟨c, M4, σ, e4, y', z, S4, ry, rz, q7⟩
  exact ⟨_, M2, σ, e2, x, y, S2.here.here, rx, ry, bool_at q5 S2.here⟩
theorem je_chain {a b d : Expr} {ma mb mc : EM Opd} {op op' : CmpOp} {pos : Pos} (hu : X.A.units + 65 < cLine) (hm : lastMarks [op, op'] [b, d] = false) (ha : JO X ca ma a) (hb : JO X ca mb b) (hc : JO X ca mc d) :
    JE X ca (chainM ma mb mc op op') (.Compare a [op, op'] [b, d] pos) := fun W tk =>
  PE.imp (pe_chain (or_cmp hu op) (or_cmp hu op') (ha W tk) (hb W tk) (hc W tk) hm) fun σ H Q h => chain_op h
theorem jt_chain {a b d : Expr} {ma mb mc : EM Opd} {op op' : CmpOp} {pos : Pos} (hu : X.A.units + 65 < cLine) (hm : lastMarks [op, op'] [b, d] = false) (ha : JO X ca ma a) (hb : JO X ca mb b) (hc : JO X ca mc d) :
    JT X ca (boolM (chainM ma mb mc op op')) (.Compare a [op, op'] [b, d] pos) := fun W tk =>
  PT.imp (pt_chain (or_cmp hu op) (or_cmp hu op') (ha W tk) (hb W tk) (hc W tk) hm) fun σ H Q h => chain_op (bool_op h)

/-! ### subscripts -/
def isSlice : Expr → Bool
  | .Slice _ _ _ _ => true
  | _ => false
theorem plainIx {b : Expr} (h : isSlice b = false) : PlainIx b := by
  intro o i
  cases b <;> first | rfl | cases h
theorem atI_reps {ps : List PV} {vs : List V} {i : Int} {p : PV} (h : Reps K ca G ps vs) (e : atI ps i = some p) : ∃ v, atI vs i = some v ∧ Rep K ca G p v := by
  unfold atI at e ⊢
  rw [h.length]
  cases z : ixN ps.length i with
  | none => rw [z] at e; cases e
  | some j =>
    rw [z] at e
    obtain ⟨v, e1, r⟩ := h.get (show ps[j]? = some p from e)
    exact ⟨v, e1, r⟩
theorem bool_index : typeLookup (.type "bool") "__index__" = pure (some (.builtin "int.__index__")) := by rw [typeLookup_type, builtinLookup_eq_fast]; kernel_rfl
theorem sub_bool {M : Model} {A : Around} {E : Value → Shared → Prop} {s : Shared} {b : Bool} {Q : Option Int → Shared → Prop} (h : Q (some (if b then 1 else 0)) s) : wpAny M A (Builtin.List.listSubscript? (.bool b)) Q E s := by
  unfold Builtin.List.listSubscript?
  refine wpAny_bind (wpAny_specialOf (T := "bool") (by trivial) bool_index ?_)
  show wpAny M A (asIndex (.bool b) >>= _) Q E s
  refine wpAny_bind (wpAny_of_eq (a := if b then 1 else 0) ?_ ?_)
  · cases b <;> rfl
  · cases b <;> exact wpAny_pure h
theorem getItem_list_bool {prog : Program} {w : World} {A : Around} {E : Value → Shared → Prop} {s : Shared} {l : Addr} {items : Array Value} {b : Bool} {x : Value} {Q : Value → Shared → Prop} (hl : s.heap.IsList l items)
    (hx : items[(if b then 1 else 0 : Nat)]? = some x) (h : Q x s) : wpAny (model prog w) A (getItem (.ref l) (.bool b)) Q E s := by
  obtain ⟨o, ho, hc, ne, hd⟩ := id hl
  unfold getItem
  (try with_reducible refine wpAny_holding ?_)
  (first | refine wpAny_bind (wpAny_pure ?_) | skip)
  refine wpAny_bind (wpAny_sequenceKey hl.typeIs (by decide) ?_)
  refine wpAny_bind (wpAny_callSpecial?_slot (name := Str.ofString "__getitem__") hl.typeIs slot_list_getitem (wpAny_call_entry slot_list_getitem hl.typeIs entry_list_getitem ?_ (args_list_getitem _ _)))
  show wpAny _ _ (Builtin.List.listSubscript? (.bool b) >>= _) _ _ s
  refine wpAny_bind (sub_bool ?_)
  cases b with
  | true =>
    show wpAny _ _ ((seqItemAt l 1 >>= fun r => pure (r.map (1, ·))) >>= _) _ _ s
    refine wpAny_bind (wpAny_bind (wpAny_seqItemAt ho hd (wpAny_pure ?_)))
    have hx' : items[1]? = some x := hx
    rw [hx']
    (first | exact wpAny_bind (wpAny_pure (wpAny_pure ⟨x, rfl, wpAny_pure h⟩)) | exact wpAny_pure ⟨x, rfl, wpAny_pure h⟩)
  | false =>
    show wpAny _ _ ((seqItemAt l 0 >>= fun r => pure (r.map (0, ·))) >>= _) _ _ s
    refine wpAny_bind (wpAny_bind (wpAny_seqItemAt ho hd (wpAny_pure ?_)))
    have hx' : items[0]? = some x := hx
    rw [hx']
    (first | exact wpAny_bind (wpAny_pure (wpAny_pure ⟨x, rfl, wpAny_pure h⟩)) | exact wpAny_pure ⟨x, rfl, wpAny_pure h⟩)
theorem ix_listB : IxR X (fun x y H Q => ∃ p xs b v, x = .ref p ∧ y = .bl b ∧ SqL X.K H p xs ∧ xs[(if b then 1 else 0 : Nat)]? = some v ∧ Q v H) := by
  intro value slice pins s σ H x y v u Q I rx ry h hs
  obtain ⟨p, xs, b, z, rfl, rfl, hq, he, q⟩ := h
  cases rx
  cases ry
  obtain ⟨its, r, pl, hz⟩ := I.list hq
  obtain ⟨w, ew, rw'⟩ := r.get he
  have fin : EP X pins σ Q w s := ⟨z, H, I, rw', q⟩
  exact PyProof.Rows.subscriptTail_builtinR (x := w) pl.isList.typeIs slot_list_getitem.lookup (getItem_list_bool (Q := fun r s' => r = w ∧ EP X pins σ Q r s') pl.isList (by simpa using ew) ⟨rfl, fin⟩) hs
def ixP : PV → PV → Option PV
  | .tup xs, .int i => atI xs i
  | .lst xs, .int i => atI xs i
  | .lst xs, .bl b => xs[(if b then 1 else 0 : Nat)]?
  | .rdl xs, .int i => atI xs i
  | .str z, .int i => if szOk z.length then (atI z.cps.toList i).map fun c => .str ⟨#[c]⟩ else none
  | _, _ => none
def retP (o : Option PV) : EM RV := (EM.opt o).bind fun p => EM.ret (.val p)
theorem ir_ix {W : WX} : IxR X (rSem2 X.K ca W fun x y => retP (ixP x y)) := by
  intro val sl pins s σ0 H v w u1 u2 Q I r1 r2 ⟨c, M, σ, e, x, y, S, rx, ry, h⟩ hsub
  obtain ⟨b, hb, h'⟩ := RdAt.optB h
  clear h
  cases x <;> cases y <;> first | (cases hb; done) | skip
  case tup.int xs i =>
    obtain ⟨a, vs, rfl, ha, ra⟩ := rx
    cases ry
    obtain ⟨v, e1, r⟩ := atI_reps ra hb
    exact ix_tup val sl pins s σ0 H _ _ u1 u2 Q I r1 r2 ⟨a, vs, i, v, rfl, rfl, Same.sqT hid_same ha, e1, h'.ret S ⟨r, trivial⟩⟩ hsub
  case lst.int xs i =>
    obtain ⟨a, vs, rfl, ha, ra⟩ := rx
    cases ry
    obtain ⟨v, e1, r⟩ := atI_reps ra hb
    exact ix_list val sl pins s σ0 H _ _ u1 u2 Q I r1 r2 ⟨a, vs, i, v, rfl, rfl, SqL.of ha, e1, h'.ret S ⟨r, trivial⟩⟩ hsub
  case lst.bl xs k =>
    obtain ⟨a, vs, rfl, ha, ra⟩ := rx
    cases ry
    obtain ⟨v, e1, r⟩ := ra.get hb
    exact ix_listB val sl pins s σ0 H _ _ u1 u2 Q I r1 r2 ⟨a, vs, k, v, rfl, rfl, SqL.of ha, e1, h'.ret S ⟨r, trivial⟩⟩ hsub
  case rdl.int xs i =>
    obtain ⟨a, vs, rfl, ha, ra⟩ := rx
    cases ry
    obtain ⟨v, e1, r⟩ := atI_reps ra hb
    exact ix_list val sl pins s σ0 H _ _ u1 u2 Q I r1 r2 ⟨a, vs, i, v, rfl, rfl, Same.seq hid_same ha, e1, h'.ret S ⟨r, trivial⟩⟩ hsub
  case str.int z i =>
    cases rx; cases ry
    unfold ixP at hb
    cases q : szOk z.length with
    | false => simp [q] at hb
    | true =>
      simp only [q, if_true] at hb
      cases qa : atI z.cps.toList i with
      | none => rw [qa] at hb; cases hb
      | some cc =>
        rw [qa] at hb
        cases hb
        exact ix_str val sl pins s σ0 H _ _ u1 u2 Q I r1 r2 ⟨z, i, cc, rfl, rfl, of_decide_eq_true q, qa, h'.ret S ⟨rfl, trivial⟩⟩ hsub
def ixM (ma mb : EM Opd) : EM RV := two ma mb fun x y => retP (ixP x y)
theorem je_ix {a b : Expr} {ma mb : EM Opd} {pos : Pos} (hs : isSlice b = false) (ha : JO X ca ma a) (hb : JO X ca mb b) : JE X ca (ixM ma mb) (.Subscript a b pos) := fun W tk =>
  PE.imp (pe_ix ir_ix (ha W tk) (hb W tk) (plainIx hs)) fun σ H Q h => two_op h

/-! ### built-ins -/
def rSemN (K : PySem.W.Frag) (ca : CA) (W : WX) (f : List PV → EM RV) : List V → Hp → VK → Prop := fun vs H Q => ∃ c M σ e ps, Sim K ca c M σ H e ∧ Paired (fun p v => RepT K ca (hid H M) H p v) ps vs ∧ RdAt K ca c (f ps) (relV K ca) W e σ Q
def bltM (ms : EM (List Opd)) (f : List PV → EM RV) : EM RV := ms.bind fun os => (looksM os).bind fun ps => f ps
theorem blt_op {W : WX} {ms : EM (List Opd)} {f : List PV → EM RV} {σ : St} {H : Hp} {Q : VK} (h : Rd X.K ca (bltM ms f) (relV X.K ca) W σ H Q) : tCB (rSemN X.K ca W f) (Rd X.K ca ms (relOs X.K ca) W) σ H Q := by
  obtain ⟨c, M, e, S, q⟩ := h
  refine RdAt.bind q S fun a v H1 M1 e1 S1 _ _ r1 q1 => ?_
  obtain ⟨ps, _, rp, q2⟩ := q1.looksM S1 r1
  exact ⟨c, M1, σ, e1, ps, S1, rp, q2⟩
def noStars (es : List Expr) : Bool := es.all fun e => !isStar e
theorem noStars_any {env : Env} {pos : Pos} : ∀ {es : List Expr}, noStars es = true → (backTo pos (starEach es env)).any (·.1) = false
  | [], _ => rfl
  | e :: es, h => by
    unfold noStars at h
    rw [List.all_cons, Bool.and_eq_true] at h
    rw [star_cons (by simpa using h.1)]
    show (false || (backTo pos (starEach es env)).any (·.1)) = false
    rw [noStars_any (es := es) h.2]
    rfl
theorem je_blt {x : Str} {id : String} {e : Expr} {es : List Expr} {ms : EM (List Opd)} {f : List PV → EM RV} {p pos : Pos} (hc : ∀ W, CallR X (.builtin id) (rSemN X.K ca W f)) (hg : Gl X x) (hm : X.mg x = none) (hv : bootBuiltins x = some (.builtin id))
    (hn : x ≠ "__name__") (hd : (x == ("__debug__" : Str)) = false) (hs : noStars (e :: es) = true) (h : JA X ca ms (e :: es)) : JE X ca (bltM ms f) (.Call (.Name x p) (e :: es) [] pos) := fun W tk => by
  have h0 := hs
  unfold noStars at h0
  rw [List.all_cons, Bool.and_eq_true] at h0
  exact PE.imp (pe_callB (hc W) hg hm hv (h W tk) hn hd (star_cons (by simpa using h0.1)) (noStars_any h0.2)) fun σ H Q h => blt_op h
theorem je_bty {x : Str} {id : String} {e : Expr} {es : List Expr} {ms : EM (List Opd)} {f : List PV → EM RV} {p pos : Pos} (hc : ∀ W, CallR X (.type id) (rSemN X.K ca W f)) (hg : Gl X x) (hm : X.mg x = none) (hv : bootBuiltins x = some (.type id))
    (hn : x ≠ "__name__") (hd : (x == ("__debug__" : Str)) = false) (hs : noStars (e :: es) = true) (h : JA X ca ms (e :: es)) : JE X ca (bltM ms f) (.Call (.Name x p) (e :: es) [] pos) := fun W tk => by
  have h0 := hs
  unfold noStars at h0
  rw [List.all_cons, Bool.and_eq_true] at h0
  exact PE.imp (pe_callTy (hc W) hg hm hv (h W tk) hn hd (star_cons (by simpa using h0.1)) (noStars_any h0.2)) fun σ H Q h => blt_op h

def bLen : List PV → EM RV
  | [.str x] => if szOk x.length then EM.ret (.val (.int x.length)) else EM.bad
  | [.tup xs] => EM.ret (.val (.int xs.length))
  | [.lst xs] => EM.ret (.val (.int xs.length))
  | [.rdl xs] => EM.ret (.val (.int xs.length))
  | _ => EM.bad
theorem pair1 {α β : Type} {R : α → β → Prop} {a : α} {vs : List β} (h : Paired R [a] vs) : ∃ v, vs = [v] ∧ R a v := by
  cases h with
  | cons r t => cases t; exact ⟨_, rfl, r⟩
theorem pair2 {α β : Type} {R : α → β → Prop} {a b : α} {vs : List β} (h : Paired R [a, b] vs) : ∃ v w, vs = [v, w] ∧ R a v ∧ R b w := by
  cases h with
  | cons r t => obtain ⟨w, rfl, r'⟩ := pair1 t; exact ⟨_, w, rfl, r, r'⟩
theorem cs_len (W : WX) : CallR X (.builtin "len") (rSemN X.K ca W bLen) := by
  intro pins s σ0 H vs us Q I r ⟨c, M, σ, e, ps, S, rp, h⟩
  match ps, h with
  | [], h => exact False.elim h
  | p :: _ :: _, h => exact False.elim (by cases p <;> exact h)
  | [p], h =>
    obtain ⟨v, rfl, rv⟩ := pair1 rp
    cases p <;> first | exact False.elim h | skip
    case str x =>
      cases rv
      obtain ⟨hz, h⟩ := RdAt.ite h
      exact call_len pins s σ0 H _ us Q I r ⟨_, _, rfl, ⟨of_decide_eq_true hz, rfl⟩, h.ret S ⟨rfl, trivial⟩⟩
    case tup xs =>
      obtain ⟨a, ws, rfl, ha, ra⟩ := rv
      refine call_len pins s σ0 H _ us Q I r ⟨_, _, rfl, .inr ⟨ws, Same.sqT hid_same ha, rfl⟩, h.ret S ⟨?_, trivial⟩⟩
      rw [ra.length]; rfl
    case lst xs =>
      obtain ⟨a, ws, rfl, ha, ra⟩ := rv
      refine call_len pins s σ0 H _ us Q I r ⟨_, _, rfl, .inl ⟨ws, SqL.of ha, rfl⟩, h.ret S ⟨?_, trivial⟩⟩
      rw [ra.length]; rfl
    case rdl xs =>
      obtain ⟨a, ws, rfl, ha, ra⟩ := rv
      refine call_len pins s σ0 H _ us Q I r ⟨_, _, rfl, .inl ⟨ws, Same.seq hid_same ha, rfl⟩, h.ret S ⟨?_, trivial⟩⟩
      rw [ra.length]; rfl
def bAbs : List PV → EM RV
  | [.int i] => EM.ret (.val (.int (if i < 0 then -i else i)))
  | _ => EM.bad
theorem cs_abs (W : WX) : CallR X (.builtin "abs") (rSemN X.K ca W bAbs) := by
  intro pins s σ0 H vs us Q I r ⟨c, M, σ, e, ps, S, rp, h⟩
  match ps, h with
  | [], h => exact False.elim h
  | p :: _ :: _, h => exact False.elim (by cases p <;> exact h)
  | [p], h =>
    obtain ⟨v, rfl, rv⟩ := pair1 rp
    cases p <;> first | exact False.elim h | skip
    case int i =>
      cases rv
      exact call_abs pins s σ0 H _ us Q I r ⟨i, rfl, h.ret S ⟨rfl, trivial⟩⟩
def bInt : List PV → EM RV
  | [.int i] => EM.ret (.val (.int i))
  | [.bl b] => EM.ret (.val (.int (if b then 1 else 0)))
  | _ => EM.bad
theorem cs_int (W : WX) : CallR X (.type "int") (rSemN X.K ca W bInt) := by
  intro pins s σ0 H vs us Q I r ⟨c, M, σ, e, ps, S, rp, h⟩
  match ps, h with
  | [], h => exact False.elim h
  | p :: _ :: _, h => exact False.elim (by cases p <;> exact h)
  | [p], h =>
    obtain ⟨v, rfl, rv⟩ := pair1 rp
    cases p <;> first | exact False.elim h | skip
    case int i =>
      cases rv
      exact call_int1 pins s σ0 H _ us Q I r (.inl ⟨i, rfl, h.ret S ⟨rfl, trivial⟩⟩)
    case bl i =>
      cases rv
      exact call_int1 pins s σ0 H _ us Q I r (.inr ⟨i, rfl, h.ret S ⟨rfl, trivial⟩⟩)
def bMax : List PV → EM RV
  | [.int i, .int j] => EM.ret (.val (.int (if j > i then j else i)))
  | _ => EM.bad
def bMin : List PV → EM RV
  | [.int i, .int j] => EM.ret (.val (.int (if j < i then j else i)))
  | _ => EM.bad
theorem cs_max (hc : X.calm = true) (W : WX) : CallR X (.builtin "max") (rSemN X.K ca W bMax) := by
  intro pins s σ0 H vs us Q I r ⟨c, M, σ, e, ps, S, rp, h⟩
  match ps, h with
  | [], h => exact False.elim h
  | [p], h => exact False.elim (by cases p <;> exact h)
  | p :: q :: _ :: _, h => exact False.elim (by cases p <;> cases q <;> exact h)
  | [p, q], h =>
    obtain ⟨v, w, rfl, rv, rw⟩ := pair2 rp
    cases p <;> cases q <;> first | exact False.elim h | skip
    case int.int i j =>
      cases rv; cases rw
      exact call_max2 hc pins s σ0 H _ us Q I r ⟨i, j, rfl, h.ret S ⟨rfl, trivial⟩⟩
theorem cs_min (hc : X.calm = true) (W : WX) : CallR X (.builtin "min") (rSemN X.K ca W bMin) := by
  intro pins s σ0 H vs us Q I r ⟨c, M, σ, e, ps, S, rp, h⟩
  match ps, h with
  | [], h => exact False.elim h
  | [p], h => exact False.elim (by cases p <;> exact h)
  | p :: q :: _ :: _, h => exact False.elim (by cases p <;> cases q <;> exact h)
  | [p, q], h =>
    obtain ⟨v, w, rfl, rv, rw⟩ := pair2 rp
    cases p <;> cases q <;> first | exact False.elim h | skip
    case int.int i j =>
      cases rv; cases rw
      exact call_min2 hc pins s σ0 H _ us Q I r ⟨i, j, rfl, h.ret S ⟨rfl, trivial⟩⟩
def bList : List PV → EM RV
  | [.lst xs] => EM.ret (.own (.lst xs))
  | [.rdl xs] => EM.ret (.own (.lst xs))
  | [.tup xs] => EM.ret (.own (.lst xs))
  | _ => EM.bad
theorem cs_list (W : WX) : CallR X (.type "list") (rSemN X.K ca W bList) := by
  intro pins s σ0 H vs us Q I r ⟨c, M, σ, e, ps, S, rp, h⟩
  match ps, h with
  | [], h => exact False.elim h
  | p :: _ :: _, h => exact False.elim (by cases p <;> exact h)
  | [p], h =>
    obtain ⟨v, rfl, rv⟩ := pair1 rp
    cases p <;> first | exact False.elim h | skip
    case lst xs =>
      obtain ⟨a, ws, rfl, ha, ra⟩ := rv
      exact call_list_of pins s σ0 H _ us Q I r ⟨a, ws, rfl, .inl (SqL.of ha), fun l hl => h.ret (S.alloc hl) (relV.newL S hl ra)⟩
    case rdl xs =>
      obtain ⟨a, ws, rfl, ha, ra⟩ := rv
      exact call_list_of pins s σ0 H _ us Q I r ⟨a, ws, rfl, .inl (Same.seq hid_same ha), fun l hl => h.ret (S.alloc hl) (relV.newL S hl ra)⟩
    case tup xs =>
      obtain ⟨a, ws, rfl, ha, ra⟩ := rv
      exact call_list_of pins s σ0 H _ us Q I r ⟨a, ws, rfl, .inr (Same.sqT hid_same ha), fun l hl => h.ret (S.alloc hl) (relV.newL S hl ra)⟩
def bTuple : List PV → EM RV
  | [.lst xs] => EM.ret (.val (.tup xs))
  | [.rdl xs] => EM.ret (.val (.tup xs))
  | [.tup xs] => EM.ret (.val (.tup xs))
  | _ => EM.bad
theorem cs_tuple (W : WX) : CallR X (.type "tuple") (rSemN X.K ca W bTuple) := by
  intro pins s σ0 H vs us Q I r ⟨c, M, σ, e, ps, S, rp, h⟩
  match ps, h with
  | [], h => exact False.elim h
  | p :: _ :: _, h => exact False.elim (by cases p <;> exact h)
  | [p], h =>
    obtain ⟨v, rfl, rv⟩ := pair1 rp
    cases p <;> first | exact False.elim h | skip
    case lst xs =>
      obtain ⟨a, ws, rfl, ha, ra⟩ := rv
      exact call_tuple_of pins s σ0 H _ us Q I r ⟨a, ws, rfl, .inl ⟨SqL.of ha, fun l hl => h.ret (S.alloc hl) (relV.newT S hl ra)⟩⟩
    case rdl xs =>
      obtain ⟨a, ws, rfl, ha, ra⟩ := rv
      exact call_tuple_of pins s σ0 H _ us Q I r ⟨a, ws, rfl, .inl ⟨Same.seq hid_same ha, fun l hl => h.ret (S.alloc hl) (relV.newT S hl ra)⟩⟩
    case tup xs =>
      obtain ⟨a, ws, rfl, ha, ra⟩ := rv
      exact call_tuple_of pins s σ0 H _ us Q I r ⟨a, ws, rfl, .inr ⟨Same.sqT hid_same ha, h.ret S ⟨⟨a, ws, rfl, ha, ra⟩, trivial⟩⟩⟩
/-- any, all of a list of truth values -/
def blsOf : List PV → Option (List Bool)
  | [] => some []
  | .bl b :: r => (blsOf r).map (b :: ·)
  | _ :: _ => none
theorem blsOf_reps : ∀ {ps : List PV} {vs : List V} {ns : List Bool}, Reps K ca G ps vs → blsOf ps = some ns → vs = ns.map V.bl
  | [], _, _, h, e => by cases h; cases e; rfl
  | p :: r, _, ns, h, e => by
    obtain ⟨v, r', rfl, h1, h2⟩ := h
    cases p <;> first | (cases e; done) | skip
    case bl i =>
      unfold blsOf at e
      cases z : blsOf r with
      | none => rw [z] at e; cases e
      | some ms =>
        rw [z] at e
        cases e
        cases h1
        rw [blsOf_reps h2 z]
        rfl
def bAny : List PV → EM RV
  | [.lst xs] => (EM.opt (blsOf xs)).bind fun bs => retB (bs.any id)
  | _ => EM.bad
def bAll : List PV → EM RV
  | [.lst xs] => (EM.opt (blsOf xs)).bind fun bs => retB (bs.all id)
  | _ => EM.bad
theorem cs_any (hc : X.calm = true) (W : WX) : CallR X (.builtin "any") (rSemN X.K ca W bAny) := by
  intro pins s σ0 H vs us Q I r ⟨c, M, σ, e, ps, S, rp, h⟩
  match ps, h with
  | [], h => exact False.elim h
  | p :: _ :: _, h => exact False.elim (by cases p <;> exact h)
  | [p], h =>
    obtain ⟨v, rfl, rv⟩ := pair1 rp
    cases p <;> first | exact False.elim h | skip
    case lst xs =>
      obtain ⟨a, ws, rfl, ha, ra⟩ := rv
      obtain ⟨bs, eb, h⟩ := RdAt.optB h
      have := blsOf_reps ra eb
      subst this
      exact cr_any hc pins s σ0 H _ us Q I r ⟨a, bs, rfl, SqL.of ha, h.ret S ⟨rfl, trivial⟩⟩
theorem cs_all (hc : X.calm = true) (W : WX) : CallR X (.builtin "all") (rSemN X.K ca W bAll) := by
  intro pins s σ0 H vs us Q I r ⟨c, M, σ, e, ps, S, rp, h⟩
  match ps, h with
  | [], h => exact False.elim h
  | p :: _ :: _, h => exact False.elim (by cases p <;> exact h)
  | [p], h =>
    obtain ⟨v, rfl, rv⟩ := pair1 rp
    cases p <;> first | exact False.elim h | skip
    case lst xs =>
      obtain ⟨a, ws, rfl, ha, ra⟩ := rv
      obtain ⟨bs, eb, h⟩ := RdAt.optB h
      have := blsOf_reps ra eb
      subst this
      exact cr_all hc pins s σ0 H _ us Q I r ⟨a, bs, rfl, SqL.of ha, h.ret S ⟨rfl, trivial⟩⟩
/-- sorted of whole numbers -/
def sortI (ns : List Int) : List Int := ns.mergeSort fun a b => decide (a ≤ b)
theorem sortI_perm (ns : List Int) : (sortI ns).Perm ns := List.mergeSort_perm ns _
theorem sortI_le (ns : List Int) : (sortI ns).Pairwise (· ≤ ·) := by
  have h := List.pairwise_mergeSort (le := fun a b : Int => decide (a ≤ b)) (fun a b c h1 h2 => by simp at *; omega) (fun a b => by simp; omega) ns
  exact h.imp fun h => of_decide_eq_true h
theorem sortI_uniq {ns ms : List Int} (p : ms.Perm ns) (s : ms.Pairwise (· ≤ ·)) : ms = sortI ns :=
  (p.trans (sortI_perm ns).symm).eq_of_pairwise (fun a b _ _ h1 h2 => by omega) s (sortI_le ns)
theorem intsReps (ns : List Int) : Reps K ca G (ns.map PV.int) (ns.map V.int) := by
  induction ns with
  | nil => rfl
  | cons n ns ih => exact ⟨_, _, rfl, rfl, ih⟩
def bSorted : List PV → EM RV
  | [.lst xs] => (EM.opt (intsOf xs)).bind fun ns => EM.ret (.own (.lst ((sortI ns).map PV.int)))
  | _ => EM.bad
theorem cs_sorted (W : WX) : CallR X (.builtin "sorted") (rSemN X.K ca W bSorted) := by
  intro pins s σ0 H vs us Q I r ⟨c, M, σ, e, ps, S, rp, h⟩
  match ps, h with
  | [], h => exact False.elim h
  | p :: _ :: _, h => exact False.elim (by cases p <;> exact h)
  | [p], h =>
    obtain ⟨v, rfl, rv⟩ := pair1 rp
    cases p <;> first | exact False.elim h | skip
    case lst xs =>
      obtain ⟨a, ws, rfl, ha, ra⟩ := rv
      obtain ⟨ns, eb, h⟩ := RdAt.optB h
      have := intsOf_reps ra eb
      subst this
      refine cr_sortedI pins s σ0 H _ us Q I r ⟨a, ns, rfl, SqL.of ha, fun ms l pm sm hl => ?_⟩
      have := sortI_uniq pm sm
      subst this
      exact h.ret (S.alloc hl) (relV.newL S hl (intsReps _))
end
end QB

namespace QB
open PySem L2

/-! ### statements -/
def SRdAt (K : PySem.W.Frag) (ca : CA) (c : Fx) (m : SM) (W : WX) (e : En) (D : Ends) : Prop :=
  match m e with
  | .nx e' => ∀ σ' H' M', Sim K ca c M' σ' H' e' → D.nx σ' H'
  | .rt r e' => ∀ v σ' H' M', Sim K ca c M' σ' H' e' → relV K ca c M' σ' H' e' r v → D.rt v H'
  | .bk e' => ∀ σ' H' M', Sim K ca c M' σ' H' e' → D.bk σ' H'
  | .ct e' => ∀ σ' H' M', Sim K ca c M' σ' H' e' → D.ct σ' H'
  | .xc x e' => ∀ cls d σ' H' M', Sim K ca c M' σ' H' e' → XRep K ca M' H' x cls d → W cls d σ' H'
  | .bad => False
def SRd (K : PySem.W.Frag) (ca : CA) (m : SM) (W : WX) : TS := fun D σ H => ∃ c M e, Sim K ca c M σ H e ∧ SRdAt K ca c m W e D
def JS (X : Cx) (ca : CA) (m : SM) (st : Stmt) : Prop := ∀ W, Takes X W → PS X st (SRd X.K ca m W)
def JSs (X : Cx) (ca : CA) (m : SM) (st : List Stmt) : Prop := ∀ W, Takes X W → PSs X st (SRd X.K ca m W)
section
variable {X : Cx} {ca : CA} {K : PySem.W.Frag} {c : Fx} {M M' M1 : Addr → Prop} {σ σ' σ1 : St} {H H' H1 : Hp} {e e' e1 : En} {W : WX}
theorem PS.imp {st : Stmt} {t t' : TS} (h : PS X st t) (i : ∀ D σ H, t' D σ H → t D σ H) : PS X st t' := ⟨fun pins s σ H D I q => h.run pins s σ H D I (i D σ H q)⟩
theorem PSs.imp {st : List Stmt} {t t' : TS} (h : PSs X st t) (i : ∀ D σ H, t' D σ H → t D σ H) : PSs X st t' := ⟨fun pins s σ H D I q => h.run pins s σ H D I (i D σ H q)⟩
theorem relV.back {par : List (Nat × Addr)} {r : RV} {v : V} (S : Sim K ca c M1 σ1 H1 e1) (h : relV K ca (Fx.at M1 σ1 H1 e1 par) M σ H e r v) (hp : ∀ p ∈ c.par, p ∈ par) : relV K ca c M σ H e r v := by
  refine ⟨h.1, ?_⟩
  cases r with
  | val p => trivial
  | own o =>
    obtain ⟨a, e1, n, S', r⟩ := h.2
    exact ⟨a, e1, n, S.back S' hp, r⟩
def skipM : SM := fun e => .nx e
def seqM (a b : SM) : SM := fun e => match a e with
  | .nx e' => b e'
  | r => r
theorem jss_nil : JSs X ca skipM [] := fun W tk => PSs.imp pss_nil fun D σ H ⟨c, M, e, S, h⟩ => h σ H M S
theorem jss_one {st : Stmt} {m : SM} (h : JS X ca m st) : JSs X ca m [st] := fun W tk => pss_one (h W tk)
theorem jss_cons {st : Stmt} {rest : List Stmt} {m n : SM} (h : JS X ca m st) (h' : JSs X ca n rest) : JSs X ca (seqM m n) (st :: rest) := fun W tk =>
  PSs.imp (pss_cons (h W tk) (h' W tk)) fun D σ H ⟨c, M, e, S, q⟩ => by
    refine ⟨c, M, e, S, ?_⟩
    unfold SRdAt seqM at q
    unfold SRdAt
    cases z : m e with
    | nx e' => rw [z] at q; exact fun σ' H' M' S' => ⟨c, M', e', S', q⟩
    | rt r e' => rw [z] at q; exact q
    | bk e' => rw [z] at q; exact q
    | ct e' => rw [z] at q; exact q
    | xc x e' => rw [z] at q; exact q
    | bad => rw [z] at q; exact q
theorem js_pass {pos : Pos} : JS X ca skipM (.Pass pos) := fun W tk => PS.imp ps_pass fun D σ H ⟨c, M, e, S, h⟩ => h σ H M S
theorem js_break {pos : Pos} : JS X ca (fun e => .bk e) (.Break pos) := fun W tk => PS.imp ps_break fun D σ H ⟨c, M, e, S, h⟩ => h σ H M S
theorem js_continue {pos : Pos} : JS X ca (fun e => .ct e) (.Continue pos) := fun W tk => PS.imp ps_continue fun D σ H ⟨c, M, e, S, h⟩ => h σ H M S
/-- an expression, then what is made of its value -/
def thenS {α : Type} (m : EM α) (f : α → SM) : SM := fun e => match m e with
  | .ok a e' => f a e'
  | .exc x e' => .xc x e'
  | .bad => .bad
theorem SRdAt.thenS {α β : Type} {m : EM α} {f : α → SM} {rel : RelT α β} {D : Ends} {P : β → Hp → Prop} (h : SRdAt K ca c (thenS m f) W e D) (S : Sim K ca c M σ H e)
    (k : ∀ a b H1 M1 e1, Sim K ca c M1 σ H1 e1 → Same (hid H M) (hid H1 M1) → rel (Fx.at M σ H e c.par) M1 σ H1 e1 a b → SRdAt K ca c (f a) W e1 D → P b H1) : Rd K ca m rel W σ H P := by
  refine ⟨_, M, e, S.here, ?_⟩
  unfold SRdAt QB.thenS at h
  unfold RdAt
  cases q : m e with
  | ok a e' => rw [q] at h; exact fun b H' M' S' r => k a b H' M' e' (S.backH S') S'.ext r h
  | exc x e' => rw [q] at h; exact fun cls d H' M' S' r => h cls d σ H' M' (S.backH S') r
  | bad => rw [q] at h; exact h.elim
theorem js_if {t : Expr} {a b : List Stmt} {mt : EM Bool} {ma mb : SM} {pos : Pos} (ht : JT X ca mt t) (ha : JSs X ca ma a) (hb : JSs X ca mb b) : JS X ca (thenS mt fun k => if k then ma else mb) (.If t a b pos) := fun W tk =>
  PS.imp (ps_if (ht W tk) (ha W tk) (hb W tk)) fun D σ H ⟨c, M, e, S, q⟩ => SRdAt.thenS q S fun k k' H1 M1 e1 S1 _ r q1 => by
    cases r
    cases k with
    | true => exact ⟨c, M1, e1, S1, q1⟩
    | false => exact ⟨c, M1, e1, S1, q1⟩
def retM (m : EM RV) : SM := thenS m fun r e => .rt r e
theorem js_ret {a : Expr} {m : EM RV} {pos : Pos} (h : JE X ca m a) : JS X ca (retM m) (.Return (some a) pos) := fun W tk =>
  PS.imp (ps_ret (h W tk)) fun D σ H ⟨c, M, e, S, q⟩ => SRdAt.thenS q S fun r v H1 M1 e1 S1 _ rr q1 => q1 v σ H1 M1 S1 (relV.back S rr fun _ h => h)
theorem js_retN {pos : Pos} : JS X ca (fun e => .rt (.val .non) e) (.Return none pos) := fun W tk =>
  PS.imp ps_retN fun D σ H ⟨c, M, e, S, q⟩ => q .non σ H M S ⟨rfl, trivial⟩
def isComp : Expr → Bool
  | .ListComp _ _ _ _ => true
  | .SetComp _ _ _ _ => true
  | .DictComp _ _ _ _ _ => true
  | _ => false
theorem swaps_none {a : Expr} {t : Option Expr} {l : Nat} {env : Env} (h : isComp a = false) : swapsWith a t l env = pure false := by
  cases a <;> first | rfl | cases h
def exprM (m : EM RV) : SM := thenS m fun _ e => .nx e
theorem js_expr {a : Expr} {m : EM RV} {pos : Pos} (hc : isComp a = false) (h : JE X ca m a) : JS X ca (exprM m) (.Expr a pos) := fun W tk =>
  PS.imp (ps_expr (h W tk) (swaps_none hc)) fun D σ H ⟨c, M, e, S, q⟩ => SRdAt.thenS q S fun r v H1 M1 e1 S1 _ rr q1 => q1 σ H1 M1 S1

/-! ### a name is stored -/
def pinO : Option Slot → Bool
  | some s => s.pin
  | none => false
def setSl (i : Nat) (s : Slot) (e : En) : Option En := match e[i]? with
  | some o => if pinO o then none else some (e.set i (some s))
  | none => none
theorem setSl_inv {i : Nat} {s : Slot} (h : setSl i s e = some e') : i < e.length ∧ e' = e.set i (some s) ∧ ∀ t, e[i]? = some (some t) → t.pin = false := by
  unfold setSl at h
  cases q : e[i]? with
  | none => simp only [q] at h; cases h
  | some o =>
    simp only [q] at h
    cases z : pinO o with
    | true => simp [z] at h
    | false =>
      simp only [z, Bool.false_eq_true, if_false] at h
      cases h
      refine ⟨(List.getElem?_eq_some_iff.mp q).1, rfl, fun t zt => ?_⟩
      cases zt
      exact z
theorem getSet {i j : Nat} {s : Option Slot} {t : Slot} (hi : i < e.length) (q : (e.set i s)[j]? = some (some t)) : (j = i ∧ s = some t) ∨ (j ≠ i ∧ e[j]? = some (some t)) := by
  by_cases hj : j = i
  · subst hj
    rw [List.getElem?_set_self hi] at q
    cases q
    exact .inl ⟨rfl, rfl⟩
  · rw [List.getElem?_set_ne (Ne.symm hj)] at q
    exact .inr ⟨hj, q⟩
theorem Sim.storeV (S : Sim K ca c M σ H e) {i : Nat} {p : PV} {v : V} (rr : Rep K ca (hid H M) p v) (h : setSl i (.val p) e = some e') : Sim K ca c M (σ.set i (some v)) H e' := by
  obtain ⟨hi, rfl, hp⟩ := setSl_inv h
  have hσ : i < σ.length := by rw [← S.len]; exact hi
  have sself : (σ.set i (some v))[i]? = some (some v) := by rw [List.getElem?_set_self hσ]
  have sne : ∀ {j : Nat}, j ≠ i → (σ.set i (some v))[j]? = σ[j]? := fun hj => List.getElem?_set_ne (Ne.symm hj)
  refine ⟨by rw [List.length_set, List.length_set]; exact S.len, fun j s q => ?_, fun j k s t b q1 q2 h1 h2 q3 q4 => ?_, S.ext, S.frame, fun j s b q h1 h2 => ?_, fun p hq => ?_, S.there, S.cthere, S.sub⟩
  · rcases getSet hi q with ⟨rfl, z⟩ | ⟨hj, q⟩
    · cases z
      exact ⟨v, sself, rr⟩
    · rw [sne hj]
      exact S.slot j s q
  · rcases getSet hi q1 with ⟨rfl, z⟩ | ⟨hj, q1⟩
    · cases z; cases h1
    · rcases getSet hi q2 with ⟨rfl, z⟩ | ⟨hk, q2⟩
      · cases z; rcases h2 with h2 | h2 <;> cases h2
      · rw [sne hj] at q3
        rw [sne hk] at q4
        exact S.inj j k s t b q1 q2 h1 h2 q3 q4
  · rcases getSet hi q with ⟨rfl, z⟩ | ⟨hj, q⟩
    · cases z; cases h1
    · rw [sne hj] at h2
      exact S.ownd j s b q h1 h2
  · obtain ⟨q1, s, q2, q3⟩ := S.par p hq
    have ne : p.1 ≠ i := fun z => by
      rw [z] at q2
      rw [hp s q2] at q3
      cases q3
    exact ⟨by rw [sne ne]; exact q1, s, by rw [List.getElem?_set_ne (Ne.symm ne)]; exact q2, q3⟩
theorem Sim.store (S : Sim K ca c M σ H e) {i : Nat} {r : RV} {v : V} (rr : relV K ca c M σ H e r v) (h : setSl i r.slot e = some e') : ∃ M', Sim K ca c M' (σ.set i (some v)) H e' := by
  cases r with
  | val p => exact ⟨M, S.storeV rr.1 h⟩
  | own o =>
    obtain ⟨hi, rfl, hp⟩ := setSl_inv h
    have hσ : i < σ.length := by rw [← S.len]; exact hi
    have sself : (σ.set i (some v))[i]? = some (some v) := by rw [List.getElem?_set_self hσ]
    have sne : ∀ {j : Nat}, j ≠ i → (σ.set i (some v))[j]? = σ[j]? := fun hj => List.getElem?_set_ne (Ne.symm hj)
    obtain ⟨a, rfl, na, S', mr⟩ := rr.2
    have far : ∀ {j : Nat} {s : Slot}, e[j]? = some (some s) → (s.chg = true ∨ s.pin = true) → σ[j]? = some (some (.ref a)) → False := fun q hc qa => na (S.chg_at q hc qa).1
    refine ⟨addM M a, ⟨by rw [List.length_set, List.length_set]; exact S.len, fun j s q => ?_, fun j k s t b q1 q2 h1 h2 q3 q4 => ?_, S'.ext, S'.frame, fun j s b q h1 h2 => ?_, fun p hq => ?_, S'.there, S'.cthere, S'.sub⟩⟩
    · rcases getSet hi q with ⟨rfl, z⟩ | ⟨hj, q⟩
      · cases z
        exact ⟨_, sself, a, rfl, .inr rfl, mr⟩
      · rw [sne hj]
        exact S'.slot j s q
    · rcases getSet hi q1 with ⟨hj, z⟩ | ⟨hj, q1⟩
      · rcases getSet hi q2 with ⟨hk, z'⟩ | ⟨hk, q2⟩
        · rw [hj, hk]
        · rw [hj, sself] at q3
          cases q3
          rw [sne hk] at q4
          exact (far q2 h2 q4).elim
      · rcases getSet hi q2 with ⟨hk, z'⟩ | ⟨hk, q2⟩
        · rw [hk, sself] at q4
          cases q4
          rw [sne hj] at q3
          exact (far q1 (.inl h1) q3).elim
        · rw [sne hj] at q3
          rw [sne hk] at q4
          exact S.inj j k s t b q1 q2 h1 h2 q3 q4
    · rcases getSet hi q with ⟨hj, z⟩ | ⟨hj, q⟩
      · rw [hj, sself] at h2
        cases h2
        by_cases h0 : c.M0 a
        · by_cases hc : c.ch a
          · exact .inl hc
          · exact absurd (S.frame a h0 hc).1 na
        · exact .inr h0
      · rw [sne hj] at h2
        exact S.ownd j s b q h1 h2
    · obtain ⟨q1, s, q2, q3⟩ := S.par p hq
      have ne : p.1 ≠ i := fun z => by
        rw [z] at q2
        rw [hp s q2] at q3
        cases q3
      exact ⟨by rw [sne ne]; exact q1, s, by rw [List.getElem?_set_ne (Ne.symm ne)]; exact q2, q3⟩
def optS (o : Option En) : SR := match o with
  | some e => .nx e
  | none => .bad
def asgM (i : Nat) (m : EM RV) : SM := thenS m fun r e => optS (setSl i r.slot e)
theorem asg_at {D : Ends} {i : Nat} {r : RV} {v : V} (S : Sim K ca c M σ H e) (rr : relV K ca c M σ H e r v) (q : SRdAt K ca c (fun e => optS (setSl i r.slot e)) W e D) : D.nx (σ.set i (some v)) H := by
  unfold SRdAt at q
  dsimp only at q
  cases z : setSl i r.slot e with
  | none => rw [z] at q; exact False.elim q
  | some e' =>
    rw [z] at q
    obtain ⟨M', S'⟩ := S.store rr z
    exact q _ H M' S'
theorem js_set {i : Nat} {x : Str} {a : Expr} {m : EM RV} {pos pos' : Pos} (hN : X.N.Nodup) (hi : X.N[i]? = some x) (hx : Loc X.env.scope x) (hf : X.fn x = true) (hc : isComp a = false) (h : JE X ca m a) : JS X ca (asgM i m) (.Assign [.Name x pos'] a pos) := fun W tk =>
  PS.imp (ps_set hN hi hx (h W tk) (swaps_none hc) (.inl hf)) fun D σ H ⟨c, M, e, S, q⟩ => SRdAt.thenS q S fun r v H1 M1 e1 S1 _ rr q1 => asg_at S1 (relV.back S rr fun _ h => h) q1
theorem js_setW {i : Nat} {x : Str} {a : Expr} {m : EM RV} {pos pos' : Pos} (hN : X.N.Nodup) (hi : X.N[i]? = some x) (hx : Loc X.env.scope x) (hf : X.fn x = true) (hc : ∀ l, swapsWith a (some (.Name x pos')) l X.env = pure false) (h : JE X ca m a) : JS X ca (asgM i m) (.Assign [.Name x pos'] a pos) := fun W tk =>
  PS.imp (ps_set hN hi hx (h W tk) (hc _) (.inl hf)) fun D σ H ⟨c, M, e, S, q⟩ => SRdAt.thenS q S fun r v H1 M1 e1 S1 _ rr q1 => asg_at S1 (relV.back S rr fun _ h => h) q1
/-- a, b = x, y -/
def asg2M (i j : Nat) (m : EM (List PV)) : SM := thenS m fun ps e => match ps with
  | [p, q] => match setSl i (.val p) e with
    | some e1 => optS (setSl j (.val q) e1)
    | none => .bad
  | _ => .bad
theorem js_par {i j : Nat} {x y : Str} {a b : Expr} {m : EM (List PV)} {px py pt pos : Pos} {kt k2 pt2} (hc : X.calm = true) (hN : X.N.Nodup) (hi : X.N[i]? = some x) (hj : X.N[j]? = some y) (hij : i ≠ j)
    (hx : X.env.scope.names.lookup x = some .local) (hy : X.env.scope.names.lookup y = some .local) (ha : JV X ca m [a, b])
    (hw : swappedStores [.Tuple [.Name x px, .Name y py] kt pt] (.Tuple [a, b] k2 pt2) X.env = pure (some [x, y])) :
    JS X ca (asg2M i j m) (.Assign [.Tuple [.Name x px, .Name y py] kt pt] (.Tuple [a, b] k2 pt2) pos) := fun W tk =>
  PS.imp (ps_par hc hN hi hj hij hx hy (ha W tk) hw rfl) fun D σ H ⟨c, M, e, S, q⟩ => SRdAt.thenS q S fun ps vs H1 M1 e1 S1 _ rr q1 => by
    unfold SRdAt at q1
    match ps, rr, q1 with
    | [], _, q1 => exact False.elim q1
    | [_], _, q1 => exact False.elim q1
    | _ :: _ :: _ :: _, _, q1 => exact False.elim q1
    | [p, r], rr, q1 =>
      obtain ⟨v, vs', rfl, rp, v2, vs2, rfl, rp2, e0⟩ := rr
      cases e0
      refine ⟨v, v2, rfl, ?_⟩
      dsimp only at q1
      cases z : setSl i (.val p) e1 with
      | none => simp only [z] at q1
      | some e2 =>
        simp only [z] at q1
        have S2 := S1.storeV rp z
        cases z2 : setSl j (.val r) e2 with
        | none => simp only [z2, optS] at q1
        | some e3 =>
          simp only [z2, optS] at q1
          exact q1 _ H1 M1 (S2.storeV rp2 z2)
end
end QB

namespace QB
open PySem L2
def Slot.mo : Slot → Option MO
  | .own o => some o
  | .par o => some o
  | _ => none
def Slot.put : Slot → MO → Slot
  | .own _, o => .own o
  | .par _, o => .par o
  | s, _ => s
section
variable {X : Cx} {ca : CA} {K : PySem.W.Frag} {c : Fx} {M M' M1 : Addr → Prop} {σ σ' σ1 : St} {H H' H1 : Hp} {e e' e1 : En} {W : WX}

/-! ### an object in a slot changes -/
theorem same_updM {a : Addr} {o : HO} (h : M a) : Same (hid H M) (hid (upd H a o) M) := fun b q z => by
  obtain ⟨h1, h2⟩ := hid_of.mp z
  have ne : b ≠ a := fun e => h2 (e ▸ h)
  exact hid_of.mpr ⟨by rw [upd_ne ne]; exact h1, h2⟩
theorem Sim.mutate (S : Sim K ca c M σ H e) {i : Nat} {s : Slot} {m m' : MO} {a : Addr} {o' : HO} (h : e[i]? = some (some s)) (hm : s.mo = some m) (ha : σ[i]? = some (some (.ref a)))
    (mr : MRep K ca (hid (upd H a o') M) (upd H a o') a m') : Sim K ca c M σ (upd H a o') (e.set i (some (s.put m'))) := by
  have hi : i < e.length := (List.getElem?_eq_some_iff.mp h).1
  have hc : s.chg = true := by cases s <;> first | rfl | cases hm
  obtain ⟨Ma, live⟩ := S.chg_at h (.inl hc) ha
  have sm : Same (hid H M) (hid (upd H a o') M) := same_updM Ma
  have hc' : (s.put m').chg = s.chg ∧ (s.put m').pin = s.pin := by cases s <;> first | exact ⟨rfl, rfl⟩ | cases hm
  have back : ∀ {j : Nat} {t : Slot}, (e.set i (some (s.put m')))[j]? = some (some t) → ∃ t0, e[j]? = some (some t0) ∧ t.chg = t0.chg ∧ t.pin = t0.pin := fun {j t} q => by
    rcases getSet hi q with ⟨rfl, z⟩ | ⟨hj, q⟩
    · cases z
      exact ⟨s, h, hc'.1, hc'.2⟩
    · exact ⟨t, q, rfl, rfl⟩
  have aslot : c.ch a ∨ ¬ c.M0 a := S.ownd i s a h hc ha
  refine ⟨by rw [List.length_set]; exact S.len, fun j t q => ?_, fun j k t u b q1 q2 h1 h2 q3 q4 => ?_, S.ext.trans sm, fun b h0 hn => ?_, fun j t b q h1 h2 => ?_, fun p hp => ?_, fun b hb => ?_, fun b hb => ?_, S.sub⟩
  · rcases getSet hi q with ⟨rfl, z⟩ | ⟨hj, q⟩
    · cases z
      refine ⟨_, ha, ?_⟩
      cases s with
      | own _ => exact ⟨a, rfl, Ma, mr⟩
      | par _ => exact ⟨a, rfl, Ma, mr⟩
      | val _ => cases hm
      | exn _ => cases hm
    · obtain ⟨v, e1, r⟩ := S.slot j t q
      refine ⟨v, e1, ?_⟩
      have far : (t.chg = true ∨ t.pin = true) → ∀ b, v = .ref b → upd H a o' b = H b := fun hq b eb => upd_ne fun z => by
        subst eb; subst z
        exact hj (S.inj i j _ t b h q hc hq ha e1).symm
      cases t with
      | val p => exact Rep.mono sm r
      | exn x => exact XSl.mono sm r
      | own m => obtain ⟨b, eb, mb, r⟩ := r; exact ⟨b, eb, mb, r.mono sm (far (.inl rfl) b eb)⟩
      | par m => obtain ⟨b, eb, mb, r⟩ := r; exact ⟨b, eb, mb, r.mono sm (far (.inl rfl) b eb)⟩
  · obtain ⟨t0, p1, c1, _⟩ := back q1
    obtain ⟨u0, p2, c2, d2⟩ := back q2
    exact S.inj j k t0 u0 b p1 p2 (c1 ▸ h1) (by rw [← c2, ← d2]; exact h2) q3 q4
  · obtain ⟨m, q⟩ := S.frame b h0 hn
    refine ⟨m, ?_⟩
    rw [upd_ne fun z => ?_]
    · exact q
    · subst z
      rcases aslot with z | z
      · exact hn z
      · exact z h0
  · obtain ⟨t0, p1, c1, _⟩ := back q
    exact S.ownd j t0 b p1 (c1 ▸ h1) h2
  · obtain ⟨q1, t, q2, q3⟩ := S.par p hp
    refine ⟨q1, ?_⟩
    by_cases hj : p.1 = i
    · rw [hj] at q2 ⊢
      rw [h] at q2
      cases q2
      exact ⟨s.put m', by rw [List.getElem?_set_self hi], by rw [hc'.2]; exact q3⟩
    · exact ⟨t, by rw [List.getElem?_set_ne (Ne.symm hj)]; exact q2, q3⟩
  · exact upd_live (S.there b hb)
  · exact upd_live (S.cthere b hb)
theorem Sim.objAt (S : Sim K ca c M σ H e) {i : Nat} {s : Slot} {m : MO} (h : e[i]? = some (some s)) (hm : s.mo = some m) : ∃ a, σ[i]? = some (some (.ref a)) ∧ M a ∧ MRep K ca (hid H M) H a m := by
  obtain ⟨v, e1, r⟩ := S.slot i s h
  cases s with
  | val p => cases hm
  | exn _ => cases hm
  | own o => cases hm; obtain ⟨a, rfl, m1, r⟩ := r; exact ⟨a, e1, m1, r⟩
  | par o => cases hm; obtain ⟨a, rfl, m1, r⟩ := r; exact ⟨a, e1, m1, r⟩
/-- the list in a slot, changed by a function that may fail -/
def lstAt (i : Nat) (e : En) : Option (Slot × List PV) := match e[i]? with
  | some (some s) => match s.mo with
    | some (.lst xs) => some (s, xs)
    | _ => none
  | _ => none
theorem lstAt_inv {i : Nat} {s : Slot} {xs : List PV} (h : lstAt i e = some (s, xs)) : e[i]? = some (some s) ∧ s.mo = some (.lst xs) := by
  unfold lstAt at h
  cases q : e[i]? with
  | none => simp only [q] at h; cases h
  | some o =>
    cases o with
    | none => simp only [q] at h; cases h
    | some t =>
      simp only [q] at h
      cases z : t.mo with
      | none => simp only [z] at h; cases h
      | some m =>
        cases m <;> simp only [z] at h <;> cases h
        exact ⟨rfl, z⟩
def chgM {α : Type} (i : Nat) (f : List PV → Option (List PV × α)) : EM α := fun e => match lstAt i e with
  | some (s, xs) => match f xs with
    | some (ys, a) => .ok a (e.set i (some (s.put (.lst ys))))
    | none => .bad
  | none => .bad
theorem RdAt.chg {α β : Type} {i : Nat} {f : List PV → Option (List PV × α)} {rel : RelT α β} {Q : β → Hp → Prop} (h : RdAt K ca c (chgM i f) rel W e σ Q) (S : Sim K ca c M σ H e) :
    ∃ a xs vs ys r, σ[i]? = some (some (.ref a)) ∧ H a = some (.lst vs) ∧ Reps K ca (hid H M) xs vs ∧ f xs = some (ys, r) ∧ ∀ ws, Reps K ca (hid H M) ys ws → ∃ e', Sim K ca c M σ (upd H a (.lst ws)) e' ∧ ∀ b, rel c M σ (upd H a (.lst ws)) e' r b → Q b (upd H a (.lst ws)) := by
  unfold RdAt chgM at h
  cases z : lstAt i e with
  | none => rw [z] at h; exact h.elim
  | some p =>
    obtain ⟨s, xs⟩ := p
    rw [z] at h
    obtain ⟨h1, h2⟩ := lstAt_inv z
    obtain ⟨a, ha, Ma, vs, hv, rv⟩ := S.objAt h1 h2
    cases zf : f xs with
    | none => simp only [zf] at h
    | some q =>
      obtain ⟨ys, r⟩ := q
      simp only [zf] at h
      refine ⟨a, xs, vs, ys, r, ha, hv, rv, zf, fun ws rw' => ?_⟩
      have S' := S.mutate (m' := .lst ys) (o' := .lst ws) h1 h2 ha ⟨ws, upd_same, rw'.mono (same_updM Ma)⟩
      exact ⟨_, S', fun b rb => h b _ M S' rb⟩

theorem RdAt.slotM {γ δ : Type} {i : Nat} {f : Opd → EM γ} {rel : RelT γ δ} {Q : δ → Hp → Prop} (h : RdAt K ca c ((QB.slotM i).bind f) rel W e σ Q) (S : Sim K ca c M σ H e) : ∃ v, σ[i]? = some (some v) ∧ RdAt K ca c (f (.slot i)) rel W e σ Q := by
  unfold RdAt EM.bind QB.slotM at h
  cases q : e[i]? with
  | none => simp only [q] at h
  | some z =>
    cases z with
    | none => simp only [q] at h
    | some s =>
      simp only [q] at h
      obtain ⟨v, e1, _⟩ := S.slot i s q
      exact ⟨v, e1, h⟩
/-- x[k] = e, x a list in a slot -/
def putIx (k : Int) (p : PV) (xs : List PV) : Option (List PV × Unit) := (ixN xs.length k).map fun j => (xs.set j p, ())
def intM {α : Type} (f : Int → EM α) : PV → EM α
  | .int k => f k
  | _ => EM.bad
def setIxE (i : Nat) (mk : EM Opd) (mv : EM RV) : EM Unit := mv.bind fun r => (slotM i).bind fun _ => mk.bind fun o => (lookM o).bind (intM fun k => chgM i (putIx k r.pv))
def setIxM (i : Nat) (mk : EM Opd) (mv : EM RV) : SM := thenS (setIxE i mk mv) fun _ e => .nx e
theorem noswap_sub {o i : Expr} {p : Pos} {a : Expr} {env : Env} : swappedStores [.Subscript o i p] a env = pure none := by
  cases a <;> rfl
theorem unit_at {m : EM Unit} {D : Ends} (q : SRdAt K ca c (thenS m fun _ e => .nx e) W e D) : RdAt K ca c m (fun _ _ _ _ _ (_ : Unit) (_ : Unit) => True) W e σ (fun _ H' => D.nx σ H') := by
  unfold SRdAt thenS at q
  unfold RdAt
  cases z : m e with
  | ok a e' => rw [z] at q; exact fun b H' M' S' _ => q σ H' M' S'
  | exc y e' => rw [z] at q; exact fun cls d H' M' S' r => q cls d σ H' M' S' r
  | bad => rw [z] at q; exact q
theorem js_setIx {i : Nat} {x : Str} {k a : Expr} {mk : EM Opd} {mv : EM RV} {px ps pos : Pos} (hN : X.N[i]? = some x) (hv : Vis X.env.scope x) (hd : (x == ("__debug__" : Str)) = false) (hcd : (x == ("__classdict__" : Str)) = false)
    (hsl : isSlice k = false) (hc : isComp a = false) (hk : JO X ca mk k) (ha : JE X ca mv a) : JS X ca (setIxM i mk mv) (.Assign [.Subscript (.Name x px) k ps] a pos) := fun W tk => by
  have hset : ∀ v, assign (.Subscript (.Name x px) k ps) X.env v = (do
      let ov ← holding [v] (eval (.Name x px) X.env)
      let iv ← holding [v, ov] (eval k X.env)
      standAt ps
      holding [v, ov, iv] (setItem ov iv v)
      release [v, ov, iv] []) := by
    intro v
    cases k <;> first | rfl | cases hsl
  refine PS.imp (ps_asg (ha W tk) (pg_sub (pe_var hN hv hd hcd) (hk W tk) set_list hset) (by unfold swapsWithSole; exact swaps_none hc) noswap_sub rfl) fun D σ H ⟨c, M, e, S, q⟩ => ?_
  refine RdAt.bind (unit_at (σ := σ) q) S fun r v H1 M1 e1 S1 _ _ rr q1 => ?_
  obtain ⟨v', hv', q1⟩ := q1.slotM S1
  refine ⟨v', hv', ?_⟩
  refine RdAt.bind q1 S1 fun o w H2 M2 e2 S2 sm _ r2 q2 => ?_
  obtain ⟨p, _, rp, q3⟩ := q2.lookM S2 r2
  cases p <;> first | exact False.elim q3 | skip
  case int =>
    cases rp
    obtain ⟨a', xs, vs, ys, _, ha', hl, rl, hf, fin⟩ := q3.chg S2
    rw [hv'] at ha'
    cases ha'
    unfold putIx at hf
    cases zj : ixN xs.length _ with
    | none => rw [zj] at hf; cases hf
    | some j =>
      rw [zj] at hf
      cases hf
      obtain ⟨e', S', fin⟩ := fin (vs.set j v) (rl.set (rr.1.mono sm))
      exact ⟨a', vs, _, j, rfl, rfl, hl, by rw [rl.length]; exact zj, fin () trivial⟩

/-! ### methods of lists in slots -/
def isCall0 : Expr → Bool
  | .Call (.Name _ _) [] [] _ => true
  | _ => false
theorem abase {o : Expr} {a : Str} {env : Env} {w : Sem Value} (h : isCall0 o = false) : attributeBase o a env w = w := by
  unfold attributeBase
  split
  · cases h
  · rfl
def appX (p : PV) (xs : List PV) : Option (List PV × RV) := if decide (xs.length < sizeLine) then some (xs ++ [p], .val .non) else none
/-- a list stands in the slot -/
def isLst (i : Nat) : EM Unit := fun e => match lstAt i e with
  | some _ => .ok () e
  | none => .bad
def appM (i : Nat) (mv : EM RV) : EM RV := (slotM i).bind fun _ => (isLst i).bind fun _ => mv.bind fun r => chgM i (appX r.pv)
theorem RdAt.isLst {γ δ : Type} {i : Nat} {f : Unit → EM γ} {rel : RelT γ δ} {Q : δ → Hp → Prop} (h : RdAt K ca c ((QB.isLst i).bind f) rel W e σ Q) (S : Sim K ca c M σ H e) : ∃ a vs, σ[i]? = some (some (.ref a)) ∧ H a = some (.lst vs) ∧ RdAt K ca c (f ()) rel W e σ Q := by
  unfold RdAt EM.bind QB.isLst at h
  cases q : lstAt i e with
  | none => simp only [q] at h
  | some z =>
    obtain ⟨s, xs⟩ := z
    simp only [q] at h
    obtain ⟨h1, h2⟩ := lstAt_inv q
    obtain ⟨a, ha, Ma, vs, hv, rv⟩ := S.objAt h1 h2
    exact ⟨a, vs, ha, hv, h⟩
theorem few_ok {env : Env} {cpos : Pos} {es : List Expr} (hs : noStars es = true) (hl : es.length < 20) : ((backTo cpos (starEach es env)).all (fun x => !x.1) && (backToKw cpos (keywordEach [] env)).all (fun x => x.1.isSome)
      && decide (es.length + ([] : List Keyword).length + (if ([] : List Keyword).isEmpty then 0 else 1) < 30)) = true := by
  have h1 : (backTo cpos (starEach es env)).all (fun x => !x.1) = true := by
    have := noStars_any (env := env) (pos := cpos) hs
    rw [List.all_eq_not_any_not]
    simpa using this
  rw [h1]
  have : es.length < 30 := by omega
  simp [backToKw, keywordEach, this]
theorem je_app {i : Nat} {x : Str} {a : Expr} {mv : EM RV} {px apos cpos : Pos} (hN : X.N[i]? = some x) (hv : Vis X.env.scope x) (hd : (x == ("__debug__" : Str)) = false) (hcd : (x == ("__classdict__" : Str)) = false)
    (hl : (apos.endLine == cpos.line) = true) (hs : isStar a = false) (ha : JE X ca mv a) : JE X ca (appM i mv) (.Call (.Attribute (.Name x px) "append" apos) [a] [] cpos) := fun W tk => by
  have hns : noStars [a] = true := by unfold noStars; simp [hs]
  refine PE.imp (pe_bm PySem.F.plainAttrs_list PySem.F.slot_list_append PySem.F.type_list_append mt_append (pe_var hN hv hd hcd) (pa_cons (ha W tk) pa_nil (star_cons hs)) (abase rfl) (few_ok hns (by show 1 < 20; decide)) hl (star_cons hs) rfl) fun σ H Q ⟨c, M, e, S, q⟩ => ?_
  obtain ⟨v', hv', q1⟩ := q.slotM S
  obtain ⟨a', vs, ha', hl', q2⟩ := q1.isLst S
  refine ⟨v', hv', ?_, ?_⟩
  · rw [hv'] at ha'; cases ha'
    exact .inl ⟨rfl, _, SqL.of hl'⟩
  · refine RdAt.bind q2 S fun r v H1 M1 e1 S1 sm _ rr q3 => ?_
    obtain ⟨a2, xs, vs2, ys, r2, ha2, hl2, rl, hf, fin⟩ := q3.chg S1
    rw [hv'] at ha2; cases ha2
    unfold appX at hf
    cases z : decide (xs.length < sizeLine) with
    | false => simp [z] at hf
    | true =>
      simp only [z, if_true] at hf
      cases hf
      obtain ⟨e', S', fin⟩ := fin (vs2 ++ [v]) (rl.append (Reps.one rr.1))
      exact ⟨a2, vs2, v, rfl, rfl, hl2, by rw [rl.length]; exact of_decide_eq_true z, fin _ ⟨rfl, trivial⟩⟩
/-- x.extend(y), y any list -/
def extX (ps : List PV) (xs : List PV) : Option (List PV × RV) := if szOk (xs.length + ps.length) then some (xs ++ ps, .val .non) else none
def lstM' {α : Type} (f : List PV → EM α) : PV → EM α
  | .lst ps => f ps
  | _ => EM.bad
def extM (i : Nat) (mv : EM Opd) : EM RV := (slotM i).bind fun _ => (isLst i).bind fun _ => mv.bind fun o => (lookM o).bind (lstM' fun ps => chgM i (extX ps))
theorem je_ext {i : Nat} {x : Str} {a : Expr} {mv : EM Opd} {px apos cpos : Pos} (hN : X.N[i]? = some x) (hv : Vis X.env.scope x) (hd : (x == ("__debug__" : Str)) = false) (hcd : (x == ("__classdict__" : Str)) = false)
    (hl : (apos.endLine == cpos.line) = true) (hs : isStar a = false) (ha : JO X ca mv a) : JE X ca (extM i mv) (.Call (.Attribute (.Name x px) "extend" apos) [a] [] cpos) := fun W tk => by
  have hns : noStars [a] = true := by unfold noStars; simp [hs]
  refine PE.imp (pe_bm PySem.F.plainAttrs_list PySem.F.slot_list_extend PySem.F.type_list_extend mt_extend (pe_var hN hv hd hcd) (pa_cons (ha W tk) pa_nil (star_cons hs)) (abase rfl) (few_ok hns (by show 1 < 20; decide)) hl (star_cons hs) rfl) fun σ H Q ⟨c, M, e, S, q⟩ => ?_
  obtain ⟨v', hv', q1⟩ := q.slotM S
  obtain ⟨a', vs, ha', hl', q2⟩ := q1.isLst S
  refine ⟨v', hv', ?_, ?_⟩
  · rw [hv'] at ha'; cases ha'
    exact .inl ⟨rfl, _, SqL.of hl'⟩
  · refine RdAt.bind q2 S fun o v H1 M1 e1 S1 sm _ rr q3 => ?_
    obtain ⟨p, _, rp, q4⟩ := q3.lookM S1 rr
    cases p <;> first | exact False.elim q4 | skip
    case lst =>
      rename_i ps _
      obtain ⟨b, ws, rfl, hb, rb⟩ := rp
      obtain ⟨a2, xs, vs2, ys, r2, ha2, hl2, rl, hf, fin⟩ := q4.chg S1
      rw [hv'] at ha2; cases ha2
      unfold extX at hf
      cases z : szOk (xs.length + ps.length) with
      | false => simp [z] at hf
      | true =>
        simp only [z, if_true] at hf
        cases hf
        obtain ⟨e', S', fin⟩ := fin (vs2 ++ ws) (rl.append rb)
        exact ⟨a2, b, vs2, ws, rfl, rfl, hl2, hb, by rw [rl.length, rb.length]; exact of_decide_eq_true z, fin _ ⟨rfl, trivial⟩⟩
end
end QB

namespace QB
open PySem L2
/-! ### targets -/
abbrev Bnd := PV → En → Option En
def Off (ws : List Nat) (σ σ' : St) : Prop := σ'.length = σ.length ∧ ∀ i, i ∉ ws → σ'[i]? = σ[i]?
def GOk (K : PySem.W.Frag) (ca : CA) (b : Bnd) (ws : List Nat) (g : TG) : Prop := ∀ c M σ H e p v Q e', Sim K ca c M σ H e → Rep K ca (hid H M) p v → b p e = some e' → (∀ σ', Sim K ca c M σ' H e' → Off ws σ σ' → Q σ' H) → g v σ H Q
def bndNm (i : Nat) : Bnd := fun p e => setSl i (.val p) e
def bndAll : List Nat → List PV → En → Option En
  | [], [], e => some e
  | i :: is, p :: ps, e => match setSl i (.val p) e with
    | some e' => bndAll is ps e'
    | none => none
  | _, _, _ => none
def bndTup (is : List Nat) : Bnd := fun p e => match p with
  | .tup ps => bndAll is ps e
  | _ => none
inductive Tgt where
  | nm (i : Nat) | tup (is : List Nat)
def Tgt.b : Tgt → Bnd
  | .nm i => bndNm i
  | .tup is => bndTup is
def Tgt.ws : Tgt → List Nat
  | .nm i => [i]
  | .tup is => is
/-- several names -/
def gNames : List Nat → TGs
  | [] => gNil
  | i :: is => gCons (gName i) (gNames is)
def Tgt.g (K : PySem.W.Frag) : Tgt → TG
  | .nm i => gName i
  | .tup is => gTup K is.length (gNames is)
def JG (X : Cx) (t : Tgt) (tg : Expr) : Prop := PG X tg (t.g X.K)
section
variable {X : Cx} {ca : CA} {K : PySem.W.Frag} {c : Fx} {M M' M1 : Addr → Prop} {σ σ' σ1 : St} {H H' H1 : Hp} {e e' e1 : En} {W : WX}
theorem Off.refl {ws : List Nat} : Off ws σ σ := ⟨rfl, fun _ _ => rfl⟩
theorem Off.set {ws : List Nat} {i : Nat} {v : Option V} (hi : i ∈ ws) : Off ws σ (σ.set i v) := ⟨List.length_set, fun j hj => List.getElem?_set_ne fun z => hj (by rw [← z]; exact hi)⟩
theorem Off.trans {ws : List Nat} {σ2 : St} (h : Off ws σ σ1) (h' : Off ws σ1 σ2) : Off ws σ σ2 := ⟨h'.1.trans h.1, fun i hi => (h'.2 i hi).trans (h.2 i hi)⟩
theorem Off.mono {ws ws' : List Nat} (h : Off ws σ σ1) (hs : ∀ i ∈ ws, i ∈ ws') : Off ws' σ σ1 := ⟨h.1, fun i hi => h.2 i fun z => hi (hs i z)⟩
theorem jg_name {i : Nat} {x : Str} {pos : Pos} (hN : X.N.Nodup) (hi : X.N[i]? = some x) (hx : Loc X.env.scope x) (hf : X.fn x = true ∨ X.env.scope.names.lookup x = some .local) : JG X (.nm i) (.Name x pos) := pg_name hN hi hx hf
def NamesAt (X : Cx) : List Expr → List Nat → Prop
  | [], is => is = []
  | t :: ts, is => ∃ i is' x pos, is = i :: is' ∧ t = .Name x pos ∧ X.N[i]? = some x ∧ Loc X.env.scope x ∧ (X.fn x = true ∨ X.env.scope.names.lookup x = some .local) ∧ NamesAt X ts is'
theorem pgs_names (hN : X.N.Nodup) : ∀ {ts : List Expr} {is : List Nat}, NamesAt X ts is → PGs X ts (gNames is) ∧ (assignEach ts X.env).length = is.length ∧ (assignEach ts X.env).findIdx? (·.1) = none
  | [], is, h => by
    cases h
    exact ⟨pgs_nil, rfl, rfl⟩
  | t :: ts, is, h => by
    obtain ⟨i, is', x, pos, rfl, rfl, h1, h2, h3, h4⟩ := h
    obtain ⟨p1, p2, p3⟩ := pgs_names hN h4
    refine ⟨pgs_cons (pg_name hN h1 h2 h3) p1 rfl, ?_, ?_⟩
    · show (assignEach ts X.env).length + 1 = is'.length + 1
      rw [p2]
    · show List.findIdx? (fun x => x.1) ((false, assign (.Name x pos) X.env) :: assignEach ts X.env) = none
      rw [List.findIdx?_cons]
      simp [p3]
theorem gNames_ok : ∀ {is ws : List Nat} {ps : List PV} {vs : List V} {Q : St → Hp → Prop} {e e' : En} {σ : St}, (∀ i ∈ is, i ∈ ws) → Sim K ca c M σ H e → Reps K ca (hid H M) ps vs → bndAll is ps e = some e' → (∀ σ', Sim K ca c M σ' H e' → Off ws σ σ' → Q σ' H) → gNames is vs σ H Q
  | [], ws, [], _, Q, e, e', σ, _, S, r, h, k => by
    cases r; cases h
    exact ⟨rfl, k σ S Off.refl⟩
  | [], _, _ :: _, _, _, _, _, _, _, _, _, h, _ => by cases h
  | _ :: _, _, [], _, _, _, _, _, _, _, _, h, _ => by cases h
  | i :: is, ws, p :: ps, _, Q, e, e', σ, hs, S, r, h, k => by
    obtain ⟨v, vs, rfl, r1, r2⟩ := r
    unfold bndAll at h
    cases z : setSl i (.val p) e with
    | none => simp only [z] at h; cases h
    | some e1 =>
      simp only [z] at h
      exact ⟨v, vs, rfl, gNames_ok (fun j hj => hs j (List.mem_cons_of_mem _ hj)) (S.storeV r1 z) r2 h fun σ' S' o => k σ' S' ((Off.set (hs i List.mem_cons_self)).trans o)⟩
theorem bndAll_len : ∀ {is : List Nat} {ps : List PV} {e e' : En}, bndAll is ps e = some e' → ps.length = is.length := by
  intro is
  induction is with
  | nil => intro ps e e' h; cases ps with
    | nil => rfl
    | cons _ _ => cases h
  | cons i is ih => intro ps e e' h; cases ps with
    | nil => cases h
    | cons p ps =>
      unfold bndAll at h
      cases z : setSl i (.val p) e with
      | none => simp only [z] at h; cases h
      | some e1 =>
        simp only [z] at h
        rw [List.length_cons, List.length_cons, ih h]
theorem jg_tup {ts : List Expr} {is : List Nat} {k : Nat} {pos : Pos} (hc : X.calm = true) (hN : X.N.Nodup) (h : NamesAt X ts is) : JG X (.tup is) (.Tuple ts k pos) := by
  obtain ⟨p1, p2, p3⟩ := pgs_names hN h
  exact pg_tup hc p1 p2 p3
theorem Tgt.ok : ∀ {t : Tgt}, GOk K ca t.b t.ws (t.g K)
  | .nm i => fun c M σ H e p v Q e' S r h k => k _ (S.storeV r h) (Off.set List.mem_cons_self)
  | .tup is => fun c M σ H e p v Q e' S r hb k => by
    have hb : bndTup is p e = some e' := hb
    cases p <;> first | (cases hb; done) | skip
    case tup ps =>
      obtain ⟨a, vs, rfl, ha, ra⟩ := r
      exact ⟨a, vs, rfl, Same.sqT hid_same ha, by rw [ra.length]; exact bndAll_len hb, gNames_ok (fun _ h => h) S ra hb k⟩

/-! ### what is walked -/
structure ItOk (K : PySem.W.Frag) (ca : CA) (G1 : Hp) (J : It) (xs : List PV) : Prop where
  stop : ∀ H M, Same G1 (hid H M) → J.stop xs.length H
  go : ∀ H M i, i < xs.length → Same G1 (hid H M) → J.go i H
  yld : ∀ H M i x H', i < xs.length → Same G1 (hid H M) → J.yld i H x H' → ∃ p, xs[i]? = some p ∧ ∀ c σ e, Sim K ca c M σ H e → Sim K ca c M σ H' e ∧ Same (hid H M) (hid H' M) ∧ (∀ a, (H a).isSome = true → H' a = H a) ∧ Rep K ca (hid H' M) p x
def relI (K : PySem.W.Frag) (ca : CA) : RelT (List PV) It := fun _ M _ H _ xs J => ItOk K ca (hid H M) J xs
def JI (X : Cx) (ca : CA) (m : EM (List PV)) (tg iter : Expr) : Prop := ∀ W, Takes X W → PI X tg iter (Rd X.K ca m (relI X.K ca) W)
theorem drop_get {α : Type} {xs : List α} {i : Nat} {p : α} (h : xs[i]? = some p) : xs.drop i = p :: xs.drop (i + 1) := by
  obtain ⟨hi, e⟩ := List.getElem?_eq_some_iff.mp h
  rw [List.drop_eq_getElem_cons hi, e]
theorem PI.or {tg iter : Expr} {w w' : TI} (h : PI X tg iter w) (h' : PI X tg iter w') : PI X tg iter (fun σ H R => w σ H R ∨ w' σ H R) := ⟨fun pins s σ H R I q => q.elim (h.run pins s σ H R I) (h'.run pins s σ H R I)⟩
theorem PI.imp {tg iter : Expr} {w w' : TI} (h : PI X tg iter w) (i : ∀ σ H R, w' σ H R → w σ H R) : PI X tg iter w' := ⟨fun pins s σ H R I q => h.run pins s σ H R I (i σ H R q)⟩
/-- items that stand still -/
theorem ItOk.of {G1 : Hp} {J : It} {xs : List PV} (stop : ∀ H M, Same G1 (hid H M) → J.stop xs.length H)
    (go : ∀ H M i, i < xs.length → Same G1 (hid H M) → J.go i H ∧ ∀ x H', J.yld i H x H' → H' = H ∧ ∃ p, xs[i]? = some p ∧ Rep K ca G1 p x) : ItOk K ca G1 J xs where
  stop := stop
  go := fun H M i hi s => (go H M i hi s).1
  yld := fun H M i x H' hi s y => by
    obtain ⟨rfl, p, hp, r⟩ := (go H M i hi s).2 x H' y
    exact ⟨p, hp, fun c σ e S => ⟨S, Same.refl _, fun _ _ => rfl, r.mono s⟩⟩
/-- the items of a value -/
def itemsOf : PV → Option (List PV)
  | .lst xs => some xs
  | .tup xs => some xs
  | .rdl xs => some xs
  | .str x => some (x.cps.toList.map fun c => .str ⟨#[c]⟩)
  | _ => none
def itV (m : EM RV) : EM (List PV) := m.bind fun r => EM.opt (itemsOf r.pv)
theorem it_list {G1 : Hp} {a : Addr} {xs : List PV} {vs : List V} (sq : ∀ H M, Same G1 (hid H M) → SqL K H a vs) (ra : Reps K ca G1 xs vs) : ItOk K ca G1 (Itl K a) xs := by
  refine ItOk.of (fun H M s => ⟨vs, sq H M s, by rw [ra.length]; exact Nat.le_refl _⟩) fun H M i hlt s => ?_
  have hl : i < vs.length := by rw [ra.length]; exact hlt
  refine ⟨⟨vs, vs[i], sq H M s, by simp [hl]⟩, fun x H'' y => ?_⟩
  obtain ⟨e0, y⟩ := y
  exact ⟨e0, ra.getV (y vs (sq H M s))⟩
theorem it_tup {G1 : Hp} {a : Addr} {xs : List PV} {vs : List V} (ha : SqT K G1 a vs) (ra : Reps K ca G1 xs vs) : ItOk K ca G1 (Itt K a) xs := by
  have sq : ∀ H M, Same G1 (hid H M) → SqT K H a vs := fun H M s => Same.sqT hid_same (Same.sqT s ha)
  refine ItOk.of (fun H M s => ⟨vs, sq H M s, by rw [ra.length]; exact Nat.le_refl _⟩) fun H M i hlt s => ?_
  have hl : i < vs.length := by rw [ra.length]; exact hlt
  refine ⟨⟨vs, vs[i], sq H M s, by simp [hl]⟩, fun x H'' y => ?_⟩
  obtain ⟨e0, y⟩ := y
  exact ⟨e0, ra.getV (y vs (sq H M s))⟩
theorem ji_val {tg iter : Expr} {m : EM RV} (hi : JE X ca m iter) : JI X ca (itV m) tg iter := fun W tk => by
  refine PI.imp (PI.or (pi_list (hi W tk)) (PI.or (pi_tup (hi W tk)) (pi_str (hi W tk)))) fun σ H R ⟨c, M, e, S, q⟩ => ?_
  unfold RdAt itV EM.bind at q
  cases z : m e with
  | bad => simp only [z] at q
  | exc x e' =>
    simp only [z] at q
    refine .inl ⟨c, M, e, S, ?_⟩
    unfold RdAt
    rw [z]
    exact fun cls d H' M' S' r => q cls d H' M' S' r
  | ok r e' =>
    simp only [z] at q
    have fin : ∀ {P : VK}, (∀ v H' M', Sim X.K ca c M' σ H' e' → Rep X.K ca (hid H' M') r.pv v → P v H') → Rd X.K ca m (relV X.K ca) W σ H P := fun {P} k => by
      refine ⟨c, M, e, S, ?_⟩
      unfold RdAt
      rw [z]
      exact fun b H' M' S' rr => k b H' M' S' rr.1
    cases zp : r.pv with
    | lst xs =>
      simp only [zp, itemsOf, EM.opt, EM.ret] at q
      refine .inl (fin fun v H1 M1 S1 rv => ?_)
      rw [zp] at rv
      obtain ⟨a, vs, rfl, ha, ra⟩ := rv
      exact ⟨a, rfl, ⟨vs, SqL.of (hid_same _ _ ha)⟩, q _ H1 M1 S1 (it_list (fun H M s => SqL.of (hid_same _ _ (s _ _ ha))) ra)⟩
    | rdl xs =>
      simp only [zp, itemsOf, EM.opt, EM.ret] at q
      refine .inl (fin fun v H1 M1 S1 rv => ?_)
      rw [zp] at rv
      obtain ⟨a, vs, rfl, ha, ra⟩ := rv
      exact ⟨a, rfl, ⟨vs, Same.seq hid_same ha⟩, q _ H1 M1 S1 (it_list (fun H M s => Same.seq hid_same (Same.seq s ha)) ra)⟩
    | tup xs =>
      simp only [zp, itemsOf, EM.opt, EM.ret] at q
      refine .inr (.inl (fin fun v H1 M1 S1 rv => ?_))
      rw [zp] at rv
      obtain ⟨a, vs, rfl, ha, ra⟩ := rv
      exact ⟨a, rfl, ⟨vs, Same.sqT hid_same ha⟩, q _ H1 M1 S1 (it_tup ha ra)⟩
    | str x =>
      simp only [zp, itemsOf, EM.opt, EM.ret] at q
      refine .inr (.inr (fin fun v H1 M1 S1 rv => ?_))
      rw [zp] at rv
      cases rv
      refine ⟨x, rfl, q _ H1 M1 S1 (ItOk.of (fun H M s => ?_) fun H M i hlt s => ?_)⟩
      · show x.cps.size ≤ _
        simp
      · have hl : i < x.cps.size := by simpa using hlt
        refine ⟨hl, fun v H'' y => ?_⟩
        obtain ⟨e0, cc, y1, rfl⟩ := y
        refine ⟨e0, .str ⟨#[cc]⟩, ?_, rfl⟩
        rw [List.getElem?_map, Array.getElem?_toList, y1]
        rfl
    | _ => simp only [zp, itemsOf, EM.opt, EM.bad] at q
/-- range(n), range(a, b) -/
def rngP (lo hi : Int) : List PV := (List.range (hi - lo).toNat).map fun (k : Nat) => PV.int (lo + k)
def inR (i : Int) : Bool := decide (-(2 ^ 62) ≤ i ∧ i < 2 ^ 62)
def rng1 : List PV → Option (List PV)
  | [.int j] => if inR j then some (rngP 0 j) else none
  | _ => none
def rng2 : List PV → Option (List PV)
  | [.int i, .int j] => if inR i && inR j then some (rngP i j) else none
  | _ => none
/-- an iterable made of arguments -/
def itA (f : List PV → Option (List PV)) (ms : EM (List Opd)) : EM (List PV) := ms.bind fun os => (looksM os).bind fun ps => EM.opt (f ps)
theorem rng_items {G1 : Hp} {lo hi : Int} {n : Nat} (hn : n = (hi - lo).toNat) : ItOk K ca G1 (Itr lo n) (rngP lo hi) := by
  have hl : (rngP lo hi).length = n := by unfold rngP; simp [hn]
  refine ItOk.of (fun H M s => ?_) fun H M i hlt s => ?_
  · show n ≤ _
    omega
  · refine ⟨by show i < n; omega, fun x H'' y => ?_⟩
    obtain ⟨e0, rfl⟩ := y
    refine ⟨e0, .int (lo + i), ?_, rfl⟩
    unfold rngP
    rw [List.getElem?_map, List.getElem?_range (by rw [← hn]; omega)]
    rfl
theorem ji_rng1 {tg a : Expr} {ms : EM (List Opd)} {p pos' : Pos} (hgl : Gl X "range") (hm : X.mg "range" = none) (hs : isStar a = false) (hi : JA X ca ms [a]) : JI X ca (itA rng1 ms) tg (.Call (.Name "range" p) [a] [] pos') := fun W tk => by
  refine PI.imp (pi_range1 hgl hm (hi W tk) (star_cons hs)) fun σ H R ⟨c, M, e, S, q⟩ => RdAt.bind q S fun os vs H1 M1 e1 S1 _ _ r q1 => ?_
  obtain ⟨ps, hlk, rp, q2⟩ := q1.looksM S1 r
  clear hlk
  obtain ⟨xs, hx, q3⟩ := q2.opt
  unfold rng1 at hx
  split at hx
  · rename_i j
    obtain ⟨v, rfl, rv⟩ := pair1 rp
    cases rv
    split at hx
    · rename_i z
      cases hx
      obtain ⟨h1, h2⟩ := of_decide_eq_true z
      exact ⟨j, rfl, h1, h2, q3.ret S1 (rng_items (by simp))⟩
    · cases hx
  · cases hx
theorem ji_rng2 {tg a a' : Expr} {ms : EM (List Opd)} {p pos' : Pos} (hgl : Gl X "range") (hm : X.mg "range" = none) (hs : isStar a = false) (hs' : isStar a' = false) (hi : JA X ca ms [a, a']) : JI X ca (itA rng2 ms) tg (.Call (.Name "range" p) [a, a'] [] pos') := fun W tk => by
  refine PI.imp (pi_range2 hgl hm (hi W tk) (by rw [star_cons hs, star_cons hs']; rfl) (star_cons hs')) fun σ H R ⟨c, M, e, S, q⟩ => RdAt.bind q S fun os vs H1 M1 e1 S1 _ _ r q1 => ?_
  obtain ⟨ps, hlk, rp, q2⟩ := q1.looksM S1 r
  clear hlk
  obtain ⟨xs, hx, q3⟩ := q2.opt
  unfold rng2 at hx
  split at hx
  · rename_i i j
    obtain ⟨v, w, rfl, rv, rw⟩ := pair2 rp
    cases rv; cases rw
    split at hx
    · rename_i z
      cases hx
      obtain ⟨z1, z2⟩ := Bool.and_eq_true_iff.mp z
      obtain ⟨h1, h2⟩ := of_decide_eq_true z1
      obtain ⟨h3, h4⟩ := of_decide_eq_true z2
      exact ⟨i, j, rfl, ⟨h1, h2, h3, h4⟩, q3.ret S1 (rng_items rfl)⟩
    · cases hx
  · cases hx

/-! ### for -/
def loopM (b : Bnd) (body : SM) : List PV → SM
  | [], e => .nx e
  | p :: ps, e => match b p e with
    | none => .bad
    | some e1 => match body e1 with
      | .nx e2 => loopM b body ps e2
      | .ct e2 => loopM b body ps e2
      | .bk e2 => .nx e2
      | .rt r e2 => .rt r e2
      | .xc x e2 => .xc x e2
      | .bad => .bad
def forI (b : Bnd) (m : EM (List PV)) (body : SM) : SM := thenS m fun xs => loopM b body xs
theorem loop_turn {b : Bnd} {ws : List Nat} {g : TG} {body : SM} {p : PV} {ps : List PV} {x : V} {D : Ends} {c' : Fx} (S1 : Sim K ca c M1 σ1 H1 e1) (hc' : c' = Fx.at M1 σ1 H1 e1 c.par) (hg : GOk K ca b ws g) (S : Sim K ca c' M σ H e) (r' : Rep K ca (hid H M) p x)
    (q : SRdAt K ca c (loopM b body (p :: ps)) W e D) :
    g x σ H fun σ2 H2 => SRd K ca body W { D with nx := fun σ H => ∃ M e, Sim K ca c' M σ H e ∧ SRdAt K ca c (loopM b body ps) W e D, ct := fun σ H => ∃ M e, Sim K ca c' M σ H e ∧ SRdAt K ca c (loopM b body ps) W e D, bk := D.nx } σ2 H2 := by
  subst hc'
  unfold SRdAt loopM at q
  cases z : b p e with
  | none => simp only [z] at q
  | some e2 =>
    simp only [z] at q
    refine hg _ M σ H e p x _ e2 S r' z fun σ2 S2 _ => ?_
    refine ⟨_, M, e2, S2, ?_⟩
    unfold SRdAt
    cases z2 : body e2 with
    | nx e3 => simp only [z2] at q; exact fun σ' H' M' S' => ⟨M', e3, S', q⟩
    | ct e3 => simp only [z2] at q; exact fun σ' H' M' S' => ⟨M', e3, S', q⟩
    | bk e3 => simp only [z2] at q; exact fun σ' H' M' S' => q σ' H' M' (S1.backH S')
    | rt rv e3 => simp only [z2] at q; exact fun v σ' H' M' S' rr => q v σ' H' M' (S1.backH S') (relV.back S1 rr fun _ h => h)
    | xc y e3 => simp only [z2] at q; exact fun cls d σ' H' M' S' rr => q cls d σ' H' M' (S1.backH S') rr
    | bad => simp only [z2] at q
theorem loop_end {b : Bnd} {body : SM} {D : Ends} {c' : Fx} (S1 : Sim K ca c M1 σ1 H1 e1) (hc' : c' = Fx.at M1 σ1 H1 e1 c.par) (S : Sim K ca c' M σ H e) (q : SRdAt K ca c (loopM b body []) W e D) : D.nx σ H := by
  subst hc'
  exact q σ H M (S1.backH S)
theorem for_items {J : It} {ws : List Nat} {g : TG} {b : Bnd} {body : SM} {D : Ends} {xs : List PV} (S1 : Sim K ca c M1 σ1 H1 e1) (hg : GOk K ca b ws g) (q : SRdAt K ca c (loopM b body xs) W e1 D) (it : ItOk K ca (hid H1 M1) J xs) :
    ∃ Wv : Nat → Nat → St → Hp → Prop, (∃ m, Wv 0 m σ1 H1) ∧ ∀ i m σ H, Wv i m σ H →
      (J.stop i H ∧ D.nx σ H) ∨ (J.go i H ∧ ∃ N : St → Hp → Prop, (∀ σ' H', N σ' H' → ∃ m', m' < m ∧ Wv (i + 1) m' σ' H') ∧ ∀ x H', J.yld i H x H' → g x σ H' fun σ2 H2 => SRd K ca body W { D with nx := N, ct := N, bk := D.nx } σ2 H2) := by
  refine ⟨fun i m σ H => m = xs.length - i ∧ i ≤ xs.length ∧ ∃ M e, Sim K ca (Fx.at M1 σ1 H1 e1 c.par) M σ H e ∧ SRdAt K ca c (loopM b body (xs.drop i)) W e D, ⟨xs.length, by simp, Nat.zero_le _, M1, e1, S1.here, q⟩, ?_⟩
  rintro i m σ H ⟨rfl, hi, M, e, S, q⟩
  by_cases hlt : i < xs.length
  · refine .inr ⟨it.go H M i hlt S.ext, fun σ H => ∃ M e, Sim K ca (Fx.at M1 σ1 H1 e1 c.par) M σ H e ∧ SRdAt K ca c (loopM b body (xs.drop (i + 1))) W e D, fun σ' H' p' => ⟨xs.length - (i + 1), by omega, rfl, hlt, p'⟩, fun x H' y => ?_⟩
    obtain ⟨p, hp, rp⟩ := it.yld H M i x H' hlt S.ext y
    obtain ⟨S', _, _, r'⟩ := rp _ σ e S
    rw [drop_get hp] at q
    exact loop_turn S1 rfl hg S' r' q
  · have e0 : i = xs.length := by omega
    subst e0
    refine .inl ⟨it.stop H M S.ext, ?_⟩
    rw [List.drop_length] at q
    exact loop_end S1 rfl S q
def fSeq : Expr → Bool
  | .Set _ _ _ => true
  | _ => false
theorem noFold {iter : Expr} {env : Env} (h : fSeq iter = false) : ∀ x, foldedSetIterable iter env x = pure x := by
  intro x
  cases iter <;> first | rfl | cases h
theorem js_for {tg iter : Expr} {body : List Stmt} {t : Tgt} {m : EM (List PV)} {mb : SM} {pos : Pos} (hp : PassesOwn (model X.prog X.w) X.A X.env X.xe) (hc : X.calm = true) (hset : fSeq iter = false) (hi : JI X ca m tg iter) (hg : JG X t tg) (hb : JSs X ca mb body) :
    JS X ca (forI t.b m mb) (.For tg iter body [] pos) := fun W tk => by
  exact PS.imp (ps_for hp hc (hi W tk) hg (hb W tk) (noFold hset)) fun D σ H ⟨c, M, e, S, q⟩ => SRdAt.thenS q S fun xs J H1 M1 e1 S1 _ it q1 => for_items S1 t.ok q1 it
end
end QB

namespace QB
open PySem L2
/-! ### what a def means, and its promise -/
inductive FR where
  | ret (r : RV) (e : En) | exc (x : PX) (e : En) | bad
abbrev FSem := List Slot → FR
def bodyF (n : Nat) (body : SM) : FSem := fun args => match body (args.map some ++ List.replicate (n - args.length) none) with
  | .nx e => .ret (.val .non) e
  | .rt r e => .ret r e
  | .xc x e => .exc x e
  | _ => .bad
section
variable (K : PySem.W.Frag) (ca : CA)
structure ArgsOk (M : Addr → Prop) (H : Hp) (args : List Slot) (vs : List V) : Prop where
  rep : Paired (fun s v => SRep K ca M H v s) args vs
  kind : ∀ s ∈ args, (∃ p, s = .val p) ∨ ∃ o, s = .par o
  inj : ∀ (i j : Nat) o o' (a : Addr), args[i]? = some (.par o) → args[j]? = some (.par o') → vs[i]? = some (.ref a) → vs[j]? = some (.ref a) → i = j
  there : ∀ a, M a → (H a).isSome = true
def passed (args : List Slot) (vs : List V) (a : Addr) : Prop := ∃ (i : Nat) (o : MO), args[i]? = some (.par o) ∧ vs[i]? = some (.ref a)
structure After (M : Addr → Prop) (H : Hp) (M' : Addr → Prop) (H' : Hp) (args : List Slot) (vs : List V) (e' : En) : Prop where
  same : Same (hid H M) (hid H' M')
  hidn : ∀ a, M a → ¬ passed args vs a → M' a ∧ H' a = H a
  there : ∀ a, M' a → (H' a).isSome = true
  live : ∀ a, (H a).isSome = true → (H' a).isSome = true
  out : ∀ (i : Nat) o o' (a : Addr), args[i]? = some (.par o) → vs[i]? = some (.ref a) → e'[i]? = some (some (.par o')) → M' a ∧ MRep K ca (hid H' M') H' a o'
def FRel (M : Addr → Prop) (H : Hp) (M' : Addr → Prop) (H' : Hp) (args : List Slot) (vs : List V) (e' : En) (r : RV) (v : V) : Prop :=
  Rep K ca (hid H' M') r.pv v ∧ match r with
    | .val _ => True
    | .own o => ∃ a, v = .ref a ∧ ¬ M' a ∧ After K ca M H (addM M' a) H' args vs e' ∧ MRep K ca (hid H' (addM M' a)) H' a o
def spF (n : Nat) (F : FSem) : Sp := fun vs H Q E => vs.length = n ∧ ∃ M args, ArgsOk K ca M H args vs ∧ match F args with
  | .ret r e' => ∀ v H' M', After K ca M H M' H' args vs e' → FRel K ca M H M' H' args vs e' r v → Q v H'
  | .exc x e' => ∀ cls d H' M', After K ca M H M' H' args vs e' → XRep K ca M' H' x cls d → E cls d H'
  | .bad => False
end
section
variable {X : Cx} {ca : CA} {K : PySem.W.Frag} {c : Fx} {M M' M1 : Addr → Prop} {σ σ' σ1 : St} {H H' H1 : Hp} {e e' e1 : En} {W : WX} {args : List Slot} {vs : List V}
theorem pairedGet {α β : Type} {R : α → β → Prop} : ∀ {as : List α} {bs : List β} {i : Nat} {a : α}, Paired R as bs → as[i]? = some a → ∃ b, bs[i]? = some b ∧ R a b
  | _, _, _, _, .nil, e => by simp at e
  | _, _, 0, _, .cons r _, e => by simp at e; subst e; exact ⟨_, rfl, r⟩
  | _, _, i + 1, a, .cons _ t, e => by
    obtain ⟨u, h1, h2⟩ := pairedGet (i := i) (a := a) t (by simpa using e)
    exact ⟨u, by simpa using h1, h2⟩
theorem pairedLen {α β : Type} {R : α → β → Prop} : ∀ {as : List α} {bs : List β}, Paired R as bs → as.length = bs.length
  | _, _, .nil => rfl
  | _, _, .cons _ t => by rw [List.length_cons, List.length_cons, pairedLen t]
def parsOf : Nat → List Slot → List V → List (Nat × Addr)
  | k, .par _ :: args, .ref a :: vs => (k, a) :: parsOf (k + 1) args vs
  | k, _ :: args, _ :: vs => parsOf (k + 1) args vs
  | _, _, _ => []
theorem parsOf_mem : ∀ {args : List Slot} {vs : List V} {k : Nat} {p : Nat × Addr}, p ∈ parsOf k args vs → ∃ (j : Nat) (o : MO), p.1 = k + j ∧ args[j]? = some (.par o) ∧ vs[j]? = some (.ref p.2)
  | [], _, _, _, h => by cases h
  | s :: args, [], k, p, h => by cases s <;> cases h
  | s :: args, v :: vs, k, p, h => by
    have rest : p ∈ parsOf (k + 1) args vs → ∃ (j : Nat) (o : MO), p.1 = k + j ∧ (s :: args)[j]? = some (.par o) ∧ (v :: vs)[j]? = some (.ref p.2) := fun h => by
      obtain ⟨j, o, h1, h2, h3⟩ := parsOf_mem h
      exact ⟨j + 1, o, by omega, by simpa using h2, by simpa using h3⟩
    cases s with
    | par o =>
      cases v with
      | ref a =>
        rcases List.mem_cons.mp (show p ∈ (k, a) :: parsOf (k + 1) args vs from h) with e | h
        · subst e
          exact ⟨0, o, rfl, rfl, rfl⟩
        · exact rest h
      | _ => exact rest h
    | _ => exact rest h
theorem mem_parsOf : ∀ {args : List Slot} {vs : List V} {k j : Nat} {o : MO} {a : Addr}, args[j]? = some (.par o) → vs[j]? = some (.ref a) → (k + j, a) ∈ parsOf k args vs
  | [], _, _, _, _, _, h, _ => by simp at h
  | s :: args, [], _, j, _, _, _, h => by simp at h
  | s :: args, v :: vs, k, 0, o, a, h1, h2 => by
    simp at h1 h2
    subst h1; subst h2
    exact List.mem_cons_self
  | s :: args, v :: vs, k, j + 1, o, a, h1, h2 => by
    have ih := mem_parsOf (args := args) (vs := vs) (k := k + 1) (j := j) (by simpa using h1) (by simpa using h2)
    have e : k + (j + 1) = k + 1 + j := by omega
    rw [e]
    cases s with
    | par o' => cases v <;> first | exact List.mem_cons_of_mem _ ih | exact ih
    | _ => exact ih
def entryFx (M : Addr → Prop) (H : Hp) (args : List Slot) (vs : List V) : Fx := ⟨H, M, passed args vs, parsOf 0 args vs⟩
theorem passed_M (A : ArgsOk K ca M H args vs) {a : Addr} (h : passed args vs a) : M a := by
  obtain ⟨i, o, h1, h2⟩ := h
  obtain ⟨v, e1, r⟩ := pairedGet A.rep h1
  rw [h2] at e1; cases e1
  obtain ⟨b, e2, m, _⟩ := r
  cases e2
  exact m
theorem entry_sim (A : ArgsOk K ca M H args vs) {N : List Str} (hl : vs.length ≤ N.length) : Sim K ca (entryFx M H args vs) M (L2.start N vs) H (args.map some ++ List.replicate (N.length - args.length) none) := by
  have hlen := pairedLen A.rep
  have inA : ∀ {i : Nat} {s : Slot}, (args.map some ++ List.replicate (N.length - args.length) none)[i]? = some (some s) → args[i]? = some s := fun {i s} h => by
    by_cases hi : i < args.length
    · rw [List.getElem?_append_left (by simpa using hi), List.getElem?_map] at h
      cases q : args[i]? with
      | none => rw [q] at h; cases h
      | some t => rw [q] at h; cases h; rfl
    · rw [List.getElem?_append_right (by simpa using hi), List.getElem?_replicate] at h
      split at h <;> cases h
  have inS : ∀ {i : Nat} {v : V}, vs[i]? = some v → (L2.start N vs)[i]? = some (some v) := fun {i v} h => by
    have hi := (List.getElem?_eq_some_iff.mp h).1
    unfold L2.start
    rw [List.getElem?_append_left (by simpa using hi), List.getElem?_map, h]
    rfl
  have toE : ∀ {i : Nat} {s : Slot}, args[i]? = some s → (args.map some ++ List.replicate (N.length - args.length) none)[i]? = some (some s) := fun {i s} h => by
    have hi := (List.getElem?_eq_some_iff.mp h).1
    rw [List.getElem?_append_left (by simpa using hi), List.getElem?_map, h]
    rfl
  have parOf : ∀ {i : Nat} {s : Slot}, args[i]? = some s → (s.chg = true ∨ s.pin = true) → ∃ o, s = .par o := fun {i s} h hc => by
    rcases A.kind s (List.mem_of_getElem? h) with ⟨p, rfl⟩ | h
    · rcases hc with h | h <;> cases h
    · exact h
  have vOf : ∀ {i : Nat} {s : Slot} {a : Addr}, args[i]? = some s → (L2.start N vs)[i]? = some (some (.ref a)) → vs[i]? = some (.ref a) := fun {i s a} h h2 => by
    obtain ⟨v, e1, _⟩ := pairedGet A.rep h
    rw [inS e1] at h2
    cases h2
    exact e1
  refine ⟨?_, fun i s h => ?_, fun i j s t a h1 h2 hs ht q1 q2 => ?_, Same.refl _, fun a h _ => ⟨h, rfl⟩, fun i s a h hc q => ?_, fun p hp => ?_, A.there, fun a h => A.there a (passed_M A h), fun a h => passed_M A h⟩
  · unfold L2.start
    rw [List.length_append, List.length_append, List.length_map, List.length_map, List.length_replicate, List.length_replicate, hlen]
  · obtain ⟨v, e1, r⟩ := pairedGet A.rep (inA h)
    exact ⟨v, inS e1, r⟩
  · obtain ⟨o, rfl⟩ := parOf (inA h1) (.inl hs)
    obtain ⟨o', rfl⟩ := parOf (inA h2) ht
    exact A.inj i j o o' a (inA h1) (inA h2) (vOf (inA h1) q1) (vOf (inA h2) q2)
  · obtain ⟨o, rfl⟩ := parOf (inA h) (.inl hc)
    exact .inl ⟨i, o, inA h, vOf (inA h) q⟩
  · obtain ⟨j, o, h1, h2, h3⟩ := parsOf_mem hp
    rw [Nat.zero_add] at h1
    rw [h1]
    exact ⟨inS h3, .par o, toE h2, rfl⟩
theorem exit_after (A : ArgsOk K ca M H args vs) (S : Sim K ca (entryFx M H args vs) M' σ' H' e') : After K ca M H M' H' args vs e' where
  same := S.ext
  hidn := fun a h hn => S.frame a h hn
  there := S.there
  live := fun a h => by
    by_cases hm : M a
    · by_cases hp : passed args vs a
      · exact S.cthere a hp
      · rw [(S.frame a hm hp).2]; exact h
    · cases q : H a with
      | none => rw [q] at h; cases h
      | some o => rw [(hid_of.mp (S.ext a o (hid_of.mpr ⟨q, hm⟩))).1]; rfl
  out := fun i o o' a h1 h2 h3 => by
    have hp : (i, a) ∈ parsOf 0 args vs := by
      have := mem_parsOf (k := 0) h1 h2
      rwa [Nat.zero_add] at this
    obtain ⟨q, _⟩ := S.par (i, a) hp
    obtain ⟨v, e1, r⟩ := S.slot i _ h3
    rw [q] at e1
    cases e1
    obtain ⟨b, e2, m, r⟩ := r
    cases e2
    exact ⟨m, r⟩
/-- the promise of a def; with rp: where no repr is under way -/
structure FnR (rp : Bool) (P : Program) (w : World) (K : PySem.W.Frag) (mg : Str → Option Value) (base : Heap) (k : Nat) (f : Addr) (fd : FuncData) (ps : List Str) (sp : Sp) : Prop where
  len : ∀ vs H Q E, sp vs H Q E → vs.length = ps.length
  run : ∀ (A : Around) (outer : List Env) (s : Shared) (H : Hp) (args : Args) (us : List Value) (vs : List V) (Q : VK) (E : XK), (rp = true → A.guards = some []) → Room k A → Env0 P w K mg base A outer s H →
    BindsTo s fd args (ps.zip us) → Vals vs us → sp vs H Q E → codeAny (model P w) A (.call (.ref f) args) (CR (L2.CX P w) outer P w H s Q E) s
theorem FnR.toOk {P : Program} {w : World} {mg : Str → Option Value} {base : Heap} {k : Nat} {f : Addr} {fd : FuncData} {ps : List Str} {sp : Sp} (F : FnR false P w K mg base k f fd ps sp) : FnOk P w K mg base (L2.CX P w) k f fd ps sp :=
  ⟨F.len, fun A o s H ar us vs Q E => F.run A o s H ar us vs Q E (fun z => by cases z)⟩
theorem FnR.ofOk {rp : Bool} {P : Program} {w : World} {mg : Str → Option Value} {base : Heap} {k : Nat} {f : Addr} {fd : FuncData} {ps : List Str} {sp : Sp} (F : FnOk P w K mg base (L2.CX P w) k f fd ps sp) : FnR rp P w K mg base k f fd ps sp :=
  ⟨F.len, fun A o s H ar us vs Q E _ => F.run A o s H ar us vs Q E⟩
theorem fnR_of {rp : Bool} {P : Program} {w : World} {mg : Str → Option Value} {base : Heap} {x qual : Str} {params : Arguments} {body : List Stmt} {scope : Scope} {dvs : List V} {kws : List (Str × V)} {f : Addr} {fd : FuncData} {N ps : List Str} {k : Nat} {sp : Sp}
    (F : FunD K x qual params body scope dvs kws f fd) (S : FnScope N ps scope) (len : ∀ vs H Q E, sp vs H Q E → vs.length = ps.length)
    (hb : ∀ (cdv : Value) (A : Around) (outer : List Env) (s : Shared) (H : Hp) (vs : List V) (Q : VK) (E : XK), (rp = true → A.guards = some []) → Room k (A.deeper (PyProof.Rows.envOfC qual scope s.heap.objs.size f cdv)) → sp vs H Q E →
      ∃ t, PSs (cxOf (L2.CX P w) P w K mg base N qual scope f cdv A outer s H E) body t ∧ t { nx := fun _ H' => Q .non H', rt := Q } (start N vs) H) : FnR rp P w K mg base (k + 1) f fd ps sp := by
  obtain ⟨oc, od, dV, kV, doc, pm, an, cdv, ct, osl, rfl, lk, hcd, -, -⟩ := F.ex
  refine ⟨len, fun A outer s H ar us vs Q E hgd hr e0 bt rv q => ?_⟩
  have keep : ∀ b o, base.get? b = some o → s.heap.get? b = some o := fun b o z => (e0.bs b o z).1
  have KH : K.In s.heap := e0.mod.kin.keeps keep
  have par : ∀ y ∈ ps.zip us, scope.names.lookup y.1 = some .local ∨ (scope.names.lookup y.1 = some .cell ∧ ((cellsFrom (s.heap.objs.size + 1) scope.names []).lookup y.1).isSome = true) := by
    rintro ⟨n, v⟩ hy
    cases S.par n (List.of_mem_zip hy).1 with
    | inl z => exact .inl z
    | inr z => exact .inr ⟨z, PySem.W.cellsFrom_some _ _ _ (.inl z)⟩
  apply codeAny_call_function hr.depth (KH _ _ lk) rfl S.co S.gen rfl (PySem.W.codeRec_of KH hcd)
  apply bt
  apply wpAny_newFunctionEnv_cells S.kind par
  rintro env rfl s1 ic
  refine ⟨(e0.mod.nolimit.keeps keep).keeps ic.toInCall.keep, codeAny_func ?_⟩
  obtain ⟨t, ht, hq⟩ := hb cdv A outer s H vs Q E hgd (hr.deeper _) q
  have J0 : Inv (cxOf (L2.CX P w) P w K mg base N qual scope f cdv A outer s H E) [] (start N vs) H s1 := inv_start S hr.hd e0 (len _ _ _ _ q) rv ic
  refine wpAny_mono (ht.run [] s1 _ H _ J0 hq) (fun fl s2 hs => ?_) fun _ _ z => z
  match fl, hs with
  | .ret u, hs =>
    obtain ⟨v, σ', H', J, r, z⟩ := hs
    exact ⟨v, H', J.os, J.bare, J.base, J.hok, r, z⟩
  | .next, hs =>
    obtain ⟨σ', H', J, z⟩ := hs
    exact ⟨V.non, H', J.os, J.bare, J.base, J.hok, rfl, z⟩
  | .brk, hs => obtain ⟨_, _, _, z⟩ := hs; exact z.elim
  | .cont, hs => obtain ⟨_, _, _, z⟩ := hs; exact z.elim
/-- THE RULE: a def whose body means m keeps the promise of its meaning -/
theorem fn_ok {rp : Bool} {P : Program} {w : World} {mg : Str → Option Value} {base : Heap} {x qual : Str} {params : Arguments} {body : List Stmt} {scope : Scope} {dvs : List V} {kws : List (Str × V)} {f : Addr} {fd : FuncData} {N ps : List Str} {k : Nat} {m : SM}
    (F : FunD K x qual params body scope dvs kws f fd) (S : FnScope N ps scope)
    (h : ∀ (cdv : Value) (A : Around) (outer : List Env) (s : Shared) (H : Hp) (E : XK), (rp = true → A.guards = some []) → Room k (A.deeper (PyProof.Rows.envOfC qual scope s.heap.objs.size f cdv)) → JSs (cxOf (L2.CX P w) P w K mg base N qual scope f cdv A outer s H E) ca m body) :
    FnR rp P w K mg base (k + 1) f fd ps (spF K ca ps.length (bodyF N.length m)) := by
  have hps : ps.length ≤ N.length := by have := congrArg List.length S.pre; rw [List.length_take] at this; omega
  refine fnR_of F S (fun vs H Q E h => h.1) fun cdv A outer s H vs Q E hgd hr hsp => ?_
  obtain ⟨hl, M, args, AO, q⟩ := hsp
  refine ⟨_, h cdv A outer s H E hgd hr (fun cls d _ H' => E cls d H') (takes_of rfl rfl rfl rfl), ?_⟩
  have SE := entry_sim AO (N := N) (by omega)
  refine ⟨_, M, _, SE, ?_⟩
  unfold bodyF at q
  show SRdAt K ca _ _ _ _ _
  unfold SRdAt
  cases z : m (args.map some ++ List.replicate (N.length - args.length) none) with
  | nx e' => simp only [z] at q; exact fun σ' H' M' S' => q .non H' M' (exit_after AO S') ⟨rfl, trivial⟩
  | rt r e' =>
    simp only [z] at q
    refine fun v σ' H' M' S' rr => q v H' M' (exit_after AO S') ⟨rr.1, ?_⟩
    cases r with
    | val p => trivial
    | own o =>
      obtain ⟨a, h1, h2, h3, h4⟩ := rr.2
      exact ⟨a, h1, h2, exit_after AO h3, h4⟩
  | bk e' => simp only [z] at q
  | ct e' => simp only [z] at q
  | xc y e' => simp only [z] at q; exact fun cls d σ' H' M' S' rr => q cls d H' M' (exit_after AO S') rr
  | bad => simp only [z] at q
end
end QB

namespace QB
open PySem L2
/-! ### calls -/
/-- the arguments as they are handed in; of the borrowed ones the place among the arguments and the slot -/
def resolve (e : En) : Nat → List Opd → Option (List Slot × List (Nat × Nat))
  | _, [] => some ([], [])
  | k, .pv p :: os => match resolve e (k + 1) os with
    | some (ss, bs) => some (.val p :: ss, bs)
    | none => none
  | k, .slot i :: os => match e[i]?, resolve e (k + 1) os with
    | some (some (.val p)), some (ss, bs) => some (.val p :: ss, bs)
    | some (some (.own o)), some (ss, bs) => some (.par o :: ss, (k, i) :: bs)
    | some (some (.par o)), some (ss, bs) => some (.par o :: ss, (k, i) :: bs)
    | _, _ => none
/-- what was borrowed comes back -/
def giveBack (bs : List (Nat × Nat)) (e' e : En) : Option En := match bs with
  | [] => some e
  | [(k, i)] => match e'[k]?, e[i]? with
    | some (some (.par o)), some (some s) => some (e.set i (some (s.put o)))
    | _, _ => none
  | _ => none
def callE (F : FSem) (os : List Opd) : EM RV := fun e => match resolve e 0 os with
  | some (ss, bs) => match F ss with
    | .ret r e' => match giveBack bs e' e with
      | some e2 => .ok r e2
      | none => .bad
    | .exc x e' => match giveBack bs e' e with
      | some e2 => .exc x e2
      | none => .bad
    | .bad => .bad
  | none => .bad
section
variable {X : Cx} {ca : CA} {K : PySem.W.Frag} {c c' : Fx} {M M' M1 : Addr → Prop} {σ σ' σ1 : St} {H H' H1 : Hp} {e e' e1 e2 : En} {W : WX} {args : List Slot} {vs : List V}
def ResOk (K : PySem.W.Frag) (ca : CA) (M : Addr → Prop) (σ : St) (H : Hp) (e : En) (k : Nat) (ss : List Slot) (bs : List (Nat × Nat)) (vs : List V) : Prop :=
    Paired (fun s v => SRep K ca M H v s) ss vs ∧ (∀ s ∈ ss, (∃ p, s = .val p) ∨ ∃ o, s = .par o) ∧
    (∀ (j : Nat) o (a : Addr), ss[j]? = some (.par o) → vs[j]? = some (.ref a) → ∃ i, (k + j, i) ∈ bs ∧ σ[i]? = some (some (.ref a)) ∧ ∃ s, e[i]? = some (some s) ∧ s.mo = some o) ∧
    (∀ p ∈ bs, ∃ (j : Nat) (o : MO) (a : Addr), p.1 = k + j ∧ ss[j]? = some (.par o) ∧ vs[j]? = some (.ref a) ∧ σ[p.2]? = some (some (.ref a)) ∧ ∃ s, e[p.2]? = some (some s) ∧ s.mo = some o)
theorem resolve_ok (S : Sim K ca c M σ H e) : ∀ {os : List Opd} {vs : List V} {k : Nat} {ss : List Slot} {bs : List (Nat × Nat)}, relOs K ca c' M σ H e' os vs → resolve e k os = some (ss, bs) → ResOk K ca M σ H e k ss bs vs
  | [], _, k, ss, bs, .nil, h => by
    cases h
    exact ⟨.nil, fun s hs => (by cases hs), fun j o a h => (by simp at h), fun p hp => (by cases hp)⟩
  | .pv p :: os, v :: vs, k, ss, bs, .cons r t, h => by
    unfold resolve at h
    cases z : resolve e (k + 1) os with
    | none => simp only [z] at h; cases h
    | some q =>
      obtain ⟨ss', bs'⟩ := q
      simp only [z] at h
      cases h
      obtain ⟨h1, h2, h3, h4⟩ := resolve_ok S t z
      refine ⟨.cons r h1, fun s hs => ?_, fun j o a q1 q2 => ?_, fun q hq => ?_⟩
      · rcases List.mem_cons.mp hs with rfl | hs
        · exact .inl ⟨p, rfl⟩
        · exact h2 s hs
      · cases j with
        | zero => simp at q1
        | succ j =>
          obtain ⟨i, w1, w2, w3⟩ := h3 j o a (by simpa using q1) (by simpa using q2)
          exact ⟨i, by rw [show k + (j + 1) = k + 1 + j by omega]; exact w1, w2, w3⟩
      · obtain ⟨j, o, a, w1, w2, w3, w4⟩ := h4 q hq
        exact ⟨j + 1, o, a, by omega, by simpa using w2, by simpa using w3, w4⟩
  | .slot i :: os, v :: vs, k, ss, bs, .cons r t, h => by
    have r' : σ[i]? = some (some v) := r
    unfold resolve at h
    cases q : e[i]? with
    | none => simp only [q] at h; cases h
    | some z0 =>
      cases z0 with
      | none => simp only [q] at h; cases h
      | some s =>
        obtain ⟨v', e1, rs⟩ := S.slot i s q
        rw [r'] at e1; cases e1
        cases z : resolve e (k + 1) os with
        | none => cases s <;> simp only [q, z] at h <;> cases h
        | some q' =>
          obtain ⟨ss', bs'⟩ := q'
          obtain ⟨h1, h2, h3, h4⟩ := resolve_ok S t z
          have fin : ∀ {o : MO}, s.mo = some o → SRep K ca M H v (.par o) → (Slot.par o :: ss', (k, i) :: bs') = (ss, bs) → ResOk K ca M σ H e k ss bs (v :: vs) := fun {o} hm rp hh => by
            cases hh
            obtain ⟨a, rfl, m, mr⟩ := rp
            refine ⟨.cons ⟨a, rfl, m, mr⟩ h1, fun s hs => ?_, fun j o' b q1 q2 => ?_, fun p hp => ?_⟩
            · rcases List.mem_cons.mp hs with rfl | hs
              · exact .inr ⟨o, rfl⟩
              · exact h2 s hs
            · cases j with
              | zero =>
                simp at q1 q2
                subst q1; subst q2
                exact ⟨i, List.mem_cons_self, r', s, q, hm⟩
              | succ j =>
                obtain ⟨i', w1, w2, w3⟩ := h3 j o' b (by simpa using q1) (by simpa using q2)
                exact ⟨i', List.mem_cons_of_mem _ (by rw [show k + (j + 1) = k + 1 + j by omega]; exact w1), w2, w3⟩
            · rcases List.mem_cons.mp hp with rfl | hp
              · exact ⟨0, o, a, rfl, rfl, rfl, r', s, q, hm⟩
              · obtain ⟨j, o', b, w1, w2, w3, w4⟩ := h4 p hp
                exact ⟨j + 1, o', b, by omega, by simpa using w2, by simpa using w3, w4⟩
          cases s with
          | val p =>
            simp only [q, z] at h
            cases h
            refine ⟨.cons rs h1, fun s hs => ?_, fun j o a q1 q2 => ?_, fun q hq => ?_⟩
            · rcases List.mem_cons.mp hs with rfl | hs
              · exact .inl ⟨p, rfl⟩
              · exact h2 s hs
            · cases j with
              | zero => simp at q1
              | succ j =>
                obtain ⟨i', w1, w2, w3⟩ := h3 j o a (by simpa using q1) (by simpa using q2)
                exact ⟨i', by rw [show k + (j + 1) = k + 1 + j by omega]; exact w1, w2, w3⟩
            · obtain ⟨j, o, a, w1, w2, w3, w4⟩ := h4 q hq
              exact ⟨j + 1, o, a, by omega, by simpa using w2, by simpa using w3, w4⟩
          | exn x =>
            simp only [q, z] at h
            cases h
          | own o =>
            simp only [q, z] at h
            exact fin rfl rs (Option.some.inj h)
          | par o =>
            simp only [q, z] at h
            exact fin rfl rs (Option.some.inj h)
/-- behind a call -/
theorem Sim.called (S : Sim K ca c M σ H e) {os : List Opd} {ss : List Slot} {bs : List (Nat × Nat)} (r : relOs K ca c' M σ H e1 os vs) (hr : resolve e 0 os = some (ss, bs)) (A : After K ca M H M' H' ss vs e') (hg : giveBack bs e' e = some e2) : Sim K ca c M' σ H' e2 := by
  obtain ⟨p1, p2, p3, p4⟩ := resolve_ok S r hr
  -- what is passed is what a slot of ours holds
  have pas : ∀ {a : Addr}, passed ss vs a → ∃ (i : Nat) (s : Slot), e[i]? = some (some s) ∧ s.chg = true ∧ σ[i]? = some (some (.ref a)) ∧ ∃ k, (k, i) ∈ bs := fun {a} ⟨j, o, h1, h2⟩ => by
    obtain ⟨i, w1, w2, s, w3, w4⟩ := p3 j o a h1 h2
    exact ⟨i, s, w3, (by cases s <;> first | rfl | cases w4), w2, _, w1⟩
  have keepS : ∀ {j : Nat} {s : Slot}, e[j]? = some (some s) → (∀ k, (k, j) ∉ bs) → ∃ v, σ[j]? = some (some v) ∧ SRep K ca M' H' v s := fun {j s} h hn => by
    obtain ⟨v, e1, rs⟩ := S.slot j s h
    refine ⟨v, e1, ?_⟩
    have far : (s.chg = true ∨ s.pin = true) → ∀ b, v = .ref b → M b → M' b ∧ H' b = H b := fun hc b eb mb => A.hidn b mb fun hp => by
      obtain ⟨i, t, w1, w2, w3, k, w4⟩ := pas hp
      subst eb
      have := S.inj i j t s b w1 h w2 hc w3 e1
      subst this
      exact hn k w4
    cases s with
    | val p => exact Rep.mono A.same rs
    | exn x => exact XSl.mono A.same rs
    | own m => obtain ⟨b, eb, mb, rr⟩ := rs; obtain ⟨f1, f2⟩ := far (.inl rfl) b eb mb; exact ⟨b, eb, f1, rr.mono A.same f2⟩
    | par m => obtain ⟨b, eb, mb, rr⟩ := rs; obtain ⟨f1, f2⟩ := far (.inl rfl) b eb mb; exact ⟨b, eb, f1, rr.mono A.same f2⟩
  have frm : ∀ a, c.M0 a → ¬ c.ch a → M' a ∧ H' a = c.H0 a := fun a h0 hn => by
    obtain ⟨m, q⟩ := S.frame a h0 hn
    obtain ⟨m', q'⟩ := A.hidn a m fun hp => by
      obtain ⟨i, t, w1, w2, w3, _⟩ := pas hp
      rcases S.ownd i t a w1 w2 w3 with z | z
      · exact hn z
      · exact z h0
    exact ⟨m', q'.trans q⟩
  match bs, hg with
  | [], hg =>
    cases hg
    exact ⟨S.len, fun j s h => keepS h fun k hk => (by cases hk), S.inj, S.ext.trans A.same, frm, S.ownd, S.par, A.there, fun a h => A.live a (S.cthere a h), S.sub⟩
  | _ :: _ :: _, hg => cases hg
  | [(k, i)], hg =>
    unfold giveBack at hg
    cases z1 : e'[k]? with
    | none => simp only [z1] at hg; cases hg
    | some t0 =>
      cases t0 with
      | none => simp only [z1] at hg; cases hg
      | some t =>
        cases t with
        | par o' =>
          cases z2 : e[i]? with
          | none => simp only [z1, z2] at hg; cases hg
          | some s0 =>
            cases s0 with
            | none => simp only [z1, z2] at hg; cases hg
            | some s =>
              simp only [z1, z2] at hg
              cases hg
              have hi : i < e.length := (List.getElem?_eq_some_iff.mp z2).1
              obtain ⟨j, o, a, w1, w2, w3, w4, s', w5, w6⟩ := p4 (k, i) List.mem_cons_self
              have w5' : e[i]? = some (some s') := w5
              rw [z2] at w5'
              cases w5'
              have hk : k = j := by have := w1; simp at this; exact this
              subst hk
              obtain ⟨mo', ro'⟩ := A.out k o o' a w2 w3 z1
              have hc : s.chg = true := by cases s <;> first | rfl | cases w6
              have hcp : (s.put o').chg = s.chg ∧ (s.put o').pin = s.pin := by cases s <;> first | exact ⟨rfl, rfl⟩ | cases w6
              have back : ∀ {j : Nat} {t : Slot}, (e.set i (some (s.put o')))[j]? = some (some t) → ∃ t0, e[j]? = some (some t0) ∧ t.chg = t0.chg ∧ t.pin = t0.pin := fun {j t} q => by
                rcases getSet hi q with ⟨rfl, z⟩ | ⟨hj, q⟩
                · cases z
                  exact ⟨s, z2, hcp.1, hcp.2⟩
                · exact ⟨t, q, rfl, rfl⟩
              refine ⟨by rw [List.length_set]; exact S.len, fun j t q => ?_, fun j k t u b q1 q2 h1 h2 q3 q4 => ?_, S.ext.trans A.same, frm, fun j t b q h1 h2 => ?_, fun p hp => ?_, A.there, fun a h => A.live a (S.cthere a h), S.sub⟩
              · rcases getSet hi q with ⟨rfl, z⟩ | ⟨hj, q⟩
                · cases z
                  refine ⟨_, w4, ?_⟩
                  cases s with
                  | own _ => exact ⟨a, rfl, mo', ro'⟩
                  | par _ => exact ⟨a, rfl, mo', ro'⟩
                  | val _ => cases w6
                  | exn _ => cases w6
                · exact keepS q fun k' hk' => by
                    rcases List.mem_cons.mp hk' with e0 | e0
                    · cases e0; exact hj rfl
                    · cases e0
              · obtain ⟨t0, r1, c1, _⟩ := back q1
                obtain ⟨u0, r2, c2, d2⟩ := back q2
                exact S.inj j k t0 u0 b r1 r2 (c1 ▸ h1) (by rw [← c2, ← d2]; exact h2) q3 q4
              · obtain ⟨t0, r1, c1, _⟩ := back q
                exact S.ownd j t0 b r1 (c1 ▸ h1) h2
              · obtain ⟨q1, t, q2, q3⟩ := S.par p hp
                refine ⟨q1, ?_⟩
                by_cases hj : p.1 = i
                · rw [hj] at q2 ⊢
                  rw [z2] at q2
                  cases q2
                  exact ⟨s.put o', by rw [List.getElem?_set_self hi], by rw [hcp.2]; exact q3⟩
                · exact ⟨t, by rw [List.getElem?_set_ne (Ne.symm hj)]; exact q2, q3⟩
        | _ => simp only [z1] at hg; cases hg
theorem call_sp {n : Nat} {F : FSem} {os : List Opd} {Q : VK} {c0 : Fx} (h : RdAt K ca c (callE F os) (relV K ca) W e σ Q) (S : Sim K ca c M σ H e) (r : relOs K ca c0 M σ H e1 os vs) (hn : vs.length = n) : spF K ca n F vs H Q (WE W σ) := by
  refine ⟨hn, ?_⟩
  unfold RdAt callE at h
  cases z : resolve e 0 os with
  | none => rw [z] at h; exact h.elim
  | some q =>
    obtain ⟨ss, bs⟩ := q
    rw [z] at h
    dsimp only at h
    obtain ⟨p1, p2, p3, p4⟩ := resolve_ok S r z
    cases zf : F ss with
    | bad => simp only [zf] at h
    | ret rv e' =>
      simp only [zf] at h
      cases zg : giveBack bs e' e with
      | none => simp only [zg] at h
      | some e2 =>
        simp only [zg] at h
        have one : bs.length ≤ 1 := by
          match bs, zg with
          | [], _ => exact Nat.zero_le _
          | [_], _ => exact Nat.le_refl _
          | _ :: _ :: _, zg => cases zg
        refine ⟨M, ss, ⟨p1, p2, fun i j o o' a h1 h2 h3 h4 => ?_, S.there⟩, ?_⟩
        · obtain ⟨i1, w1, _⟩ := p3 i o a h1 h3
          obtain ⟨i2, w2, _⟩ := p3 j o' a h2 h4
          match bs, one, w1, w2 with
          | [b], _, w1, w2 =>
            have e1 := List.mem_singleton.mp w1
            have e2 := List.mem_singleton.mp w2
            have := e1.trans e2.symm
            simp at this
            exact this.1
        · simp only [zf]
          refine fun v H' M' A fr => h v H' M' (S.called r z A zg) ⟨fr.1, ?_⟩
          cases rv with
          | val p => trivial
          | own o =>
            obtain ⟨a, f1, f2, f3, f4⟩ := fr.2
            exact ⟨a, f1, f2, S.called r z f3 zg, f4⟩
    | exc x e' =>
      simp only [zf] at h
      cases zg : giveBack bs e' e with
      | none => simp only [zg] at h
      | some e2 =>
        simp only [zg] at h
        have one : bs.length ≤ 1 := by
          match bs, zg with
          | [], _ => exact Nat.zero_le _
          | [_], _ => exact Nat.le_refl _
          | _ :: _ :: _, zg => cases zg
        refine ⟨M, ss, ⟨p1, p2, fun i j o o' a h1 h2 h3 h4 => ?_, S.there⟩, ?_⟩
        · obtain ⟨i1, w1, _⟩ := p3 i o a h1 h3
          obtain ⟨i2, w2, _⟩ := p3 j o' a h2 h4
          match bs, one, w1, w2 with
          | [b], _, w1, w2 =>
            have e1 := List.mem_singleton.mp w1
            have e2 := List.mem_singleton.mp w2
            have := e1.trans e2.symm
            simp at this
            exact this.1
        · simp only [zf]
          exact fun cls d H' M' A xr => h cls d H' M' (S.called r z A zg) xr
end
end QB

namespace QB
open PySem L2
/-! ### how arguments come to parameters -/
inductive Src where
  | pos (i : Nat) | kw (i : Nat) | dfl (i : Nat)
  deriving DecidableEq
def Src.get {α : Type} (us ws ds : List α) : Src → Option α
  | .pos i => us[i]?
  | .kw i => ws[i]?
  | .dfl i => ds[i]?
def pick {α : Type} (src : List Src) (us ws ds : List α) : List α := src.filterMap (Src.get us ws ds)
theorem pick_paired {α β : Type} {R : α → β → Prop} {us ws ds : List α} {vs zs es : List β} (h1 : Paired R us vs) (h2 : Paired R ws zs) (h3 : Paired R ds es) : ∀ src, Paired R (pick src us ws ds) (pick src vs zs es)
  | [] => .nil
  | s :: src => by
    have ih := pick_paired h1 h2 h3 src
    have both : ∀ {as : List α} {bs : List β} (i : Nat), Paired R as bs → (as[i]? = none ∧ bs[i]? = none) ∨ ∃ a b, as[i]? = some a ∧ bs[i]? = some b ∧ R a b := fun {as bs} i h => by
      cases q : as[i]? with
      | none =>
        refine .inl ⟨rfl, ?_⟩
        have h1 := List.getElem?_eq_none_iff.mp q
        have h2 := pairedLen h
        exact List.getElem?_eq_none_iff.mpr (by omega)
      | some a =>
        obtain ⟨b, q', r⟩ := pairedGet h q
        exact .inr ⟨a, b, rfl, q', r⟩
    have step : (Src.get us ws ds s = none ∧ Src.get vs zs es s = none) ∨ ∃ a b, Src.get us ws ds s = some a ∧ Src.get vs zs es s = some b ∧ R a b := by
      cases s with
      | pos i => exact both i h1
      | kw i => exact both i h2
      | dfl i => exact both i h3
    unfold pick at ih ⊢
    rcases step with ⟨e1, e2⟩ | ⟨a, b, e1, e2, r⟩
    · rw [List.filterMap_cons_none e1, List.filterMap_cons_none e2]; exact ih
    · rw [List.filterMap_cons_some e1, List.filterMap_cons_some e2]; exact .cons r ih
structure Shape where
  n : Nat
  ks : List Str
  src : List Src
  dfl : List PV
structure FnE where
  name : Str
  ps : List Str
  bor : List Bool
  sem : FSem
  shapes : List Shape
def ShapeOk (K : PySem.W.Frag) (ca : CA) (fd : FuncData) (ps : List Str) (s : Shape) : Prop :=
  ∃ dvs its, Paired (fun p v => KRep K ca p v) s.dfl dvs ∧ KBn K fd ps s.n s.ks (fun us ws => pick s.src us ws its) (fun vs zs => pick s.src vs zs dvs)
def FnE.Ok (rp : Bool) (X : Cx) (ca : CA) (lvl : Nat) (E : FnE) : Prop := ∃ f fd k, k ≤ lvl ∧ X.mg E.name = some (.ref f) ∧ PySem.W.keepIn X.K (.ref f) = true ∧
  FnR rp X.prog X.w X.K X.mg X.base k f fd E.ps (spF X.K ca E.ps.length E.sem) ∧ ∀ s ∈ E.shapes, ShapeOk X.K ca fd E.ps s
section
variable {rp : Bool} {X : Cx} {k n : Nat} {f : Addr} {fd : FuncData} {ps ks : List Str} {sp : Sp} {E : St → XK} {x : Str} {p pos : Pos} {es : List Expr} {kws : List Keyword} {t tk : TA} {g : List Value → List Value → List Value} {gV : List V → List V → List V}
theorem run_fnG {pins : List (Addr × Obj)} {σ : St} {H : Hp} {s : Shared} {Q : VK} {us ws : List Value} {vs zs : List V} (F : FnR rp X.prog X.w X.K X.mg X.base k f fd ps sp) (hgd : rp = true → X.A.guards = some []) (hr : Room k X.A) (hb : KBn X.K fd ps n ks g gV) (hx : PassesAt (L2.CX X.prog X.w) X σ (E σ))
    (I : Inv X pins σ H s) (r : Vals vs us) (rz : Vals zs ws) (l1 : vs.length = n) (l2 : zs.length = ks.length) (h : sp (gV vs zs) H Q (E σ)) : wpAny (model X.prog X.w) X.A (call (.ref f) us (ks.zip ws)) (EP X pins σ Q) X.xe s := by
  have r2 := hb.rel r rz
  refine wpAny_call (codeAny_mono (F.run X.A X.stack s H ⟨us, ks.zip ws⟩ (g us ws) (gV vs zs) Q (E σ) hgd hr I.env0 (hb.to s us ws I.kIn (r.length.symm.trans l1) (rz.length.symm.trans l2)) r2 h) fun r s' hq => ?_)
  cases r with
  | error e => exact hx pins H s e s' I hq
  | ok fl =>
    cases fl with
    | ret u => exact I.after hq
    | next => exact False.elim hq
    | brk => exact False.elim hq
    | cont => exact False.elim hq
def tCallG (n m : Nat) (sp : Sp) (gV : List V → List V → List V) (E : St → XK) (t tk : TA) : TE := fun σ H Q => t σ H fun vs H1 => tk σ H1 fun zs H2 => vs.length = n ∧ zs.length = m ∧ sp (gV vs zs) H2 Q (E σ)
theorem kwAll : ∀ {kws : List Keyword} {env : Env}, (∀ q ∈ kws, q.arg.isSome = true) → (backToKw pos (keywordEach kws env)).all (·.1.isSome) = true ∧ (backToKw pos (keywordEach kws env)).any (·.1.isNone) = false ∧ (backToKw pos (keywordEach kws env)).filterMap (·.1) = kws.filterMap (·.arg)
  | [], _, _ => ⟨rfl, rfl, rfl⟩
  | ⟨a, v, q⟩ :: kws, env, h => by
    obtain ⟨h1, h2, h3⟩ := kwAll (kws := kws) (env := env) fun q hq => h q (List.mem_cons_of_mem _ hq)
    have h0 := h _ (List.mem_cons_self ..)
    cases a with
    | none => cases h0
    | some a =>
      refine ⟨?_, ?_, ?_⟩
      · show (true && (backToKw pos (keywordEach kws env)).all (·.1.isSome)) = true
        rw [h1]; rfl
      · show (false || (backToKw pos (keywordEach kws env)).any (·.1.isNone)) = false
        rw [h2]; rfl
      · show a :: (backToKw pos (keywordEach kws env)).filterMap (·.1) = a :: kws.filterMap (·.arg)
        rw [h3]
theorem pe_callG {e : Expr} (F : FnR rp X.prog X.w X.K X.mg X.base k f fd ps sp) (hgd : rp = true → X.A.guards = some []) (hr : Room k X.A) (hg : Gl X x) (hm : X.mg x = some (.ref f)) (hk : PySem.W.keepIn X.K (.ref f) = true) (hb : KBn X.K fd ps n ks g gV) (hx : ∀ σ, PassesAt (L2.CX X.prog X.w) X σ (E σ))
    (ha : PA X (e :: es) t) (hkw : PK X kws tk) (hs : noStars (e :: es) = true) (hq : ∀ q ∈ kws, q.arg.isSome = true) (hks : kws.filterMap (·.arg) = ks) (hdb : (x == ("__debug__" : Str)) = false) :
    PE X (.Call (.Name x p) (e :: es) kws pos) (tCallG n ks.length sp gV E t tk) := by
  refine ⟨fun pins s σ H Q I h => ?_⟩
  obtain ⟨k1, k2, k3⟩ := kwAll (pos := pos) (env := X.env) hq
  refine wpAny_Call_Name_kw (ld_glob I hg hm ?_ hdb)
  have hs' := hs
  unfold noStars at hs'
  rw [List.all_cons, Bool.and_eq_true] at hs'
  have hst := star_cons (es := es) (env := X.env) (show isStar e = false by simpa using hs'.1)
  refine PySem.W.callWith_KW (h₀ := X.base) I.ok.mod.kin hk k1 (thn (ha.run pos pins s σ H _ I h) fun us s1 ⟨vs, H1, I1, r, q⟩ => ?_) (by rw [noStars_any hs, k2]; rfl) hst
  refine thn (hkw.run pos pins s1 σ H1 _ I1 q) fun ws s2 ⟨zs, H2, I2, rz, l1, l2, q2⟩ => ⟨I2.kIn, ?_⟩
  rw [k3, hks]
  exact run_fnG F hgd hr hb (hx σ) I2 r rz l1 l2 q2
theorem pe_callG0 (F : FnR rp X.prog X.w X.K X.mg X.base k f fd ps sp) (hgd : rp = true → X.A.guards = some []) (hr : Room k X.A) (hg : Gl X x) (hm : X.mg x = some (.ref f)) (hk : PySem.W.keepIn X.K (.ref f) = true) (hb : KBn X.K fd ps n ks g gV) (hx : ∀ σ, PassesAt (L2.CX X.prog X.w) X σ (E σ))
    (hkw : PK X kws tk) (hq : ∀ q ∈ kws, q.arg.isSome = true) (hks : kws.filterMap (·.arg) = ks) (hdb : (x == ("__debug__" : Str)) = false) :
    PE X (.Call (.Name x p) [] kws pos) (tCallG n ks.length sp gV E tNil tk) := by
  refine ⟨fun pins s σ H Q I h => ?_⟩
  obtain ⟨k1, k2, k3⟩ := kwAll (pos := pos) (env := X.env) hq
  refine wpAny_Call_Name_kw (ld_glob I hg hm ?_ hdb)
  refine PySem.W.callWith_KW0 (h₀ := X.base) I.ok.mod.kin hk k1 ?_ (by rw [k2]; rfl)
  refine thn (hkw.run pos pins s σ H _ I h) fun ws s2 ⟨zs, H2, I2, rz, l1, l2, q2⟩ => ⟨I2.kIn, ?_⟩
  rw [k3, hks]
  exact run_fnG (us := []) (vs := []) F hgd hr hb (hx σ) I2 .nil rz l1 l2 q2
end
def JK (X : Cx) (ca : CA) (m : EM (List Opd)) (kws : List Keyword) : Prop := ∀ W, Takes X W → PK X kws (Rd X.K ca m (relOs X.K ca) W)
section
variable {rp : Bool} {X : Cx} {ca : CA}
theorem PK.imp {kws : List Keyword} {t t' : TA} (h : PK X kws t) (i : ∀ σ H Q, t' σ H Q → t σ H Q) : PK X kws t' := ⟨fun pos pins s σ H Q I q => h.run pos pins s σ H Q I (i σ H Q q)⟩
theorem jk_nil : JK X ca opdsNil [] := fun W _ => PK.imp pk_nil fun σ H Q ⟨c, M, e, S, h⟩ => h.ret S .nil
theorem jk_cons {nm : Option Str} {e : Expr} {kpos : Pos} {kws : List Keyword} {m : EM Opd} {ms : EM (List Opd)} (h : JO X ca m e) (hr : JK X ca ms kws) : JK X ca (opdsCons m ms) (⟨nm, e, kpos⟩ :: kws) := fun W tk =>
  PK.imp (pk_cons (h W tk) (hr W tk)) fun σ H Q ⟨c, M, e, S, q⟩ => RdAt.bind q S fun o v H1 M1 e1 S1 _ _ r q1 =>
    RdAt.bind q1 S1 fun os vs H2 M2 e2 S2 sm _ r2 q2 => q2.ret S2 (.cons (relO.mono r sm) (relOs.mono r2 (Same.refl _)))
/-- the call of a def -/
def callK (F : FSem) (np : Nat) (s : Shape) (os zs : List Opd) : EM RV :=
  if decide (os.length = s.n ∧ zs.length = s.ks.length ∧ (pick s.src os zs (s.dfl.map .pv)).length = np) then callE F (pick s.src os zs (s.dfl.map .pv)) else EM.bad
def callM (F : FSem) (np : Nat) (s : Shape) (ms mk : EM (List Opd)) : EM RV := ms.bind fun os => mk.bind fun zs => callK F np s os zs
theorem call_at {K : PySem.W.Frag} {W : WX} {F : FSem} {np : Nat} {s : Shape} {os zs : List Opd} {vs ws dvs : List V} {c : Fx} {M : Addr → Prop} {σ : St} {H : Hp} {e : En} {Q : VK} (q : RdAt K ca c (callK F np s os zs) (relV K ca) W e σ Q) (S : Sim K ca c M σ H e)
    (r1 : relOs K ca c M σ H e os vs) (r2 : relOs K ca c M σ H e zs ws) (hd : Paired (fun p v => KRep K ca p v) s.dfl dvs) : vs.length = s.n ∧ ws.length = s.ks.length ∧ spF K ca np F (pick s.src vs ws dvs) H Q (WE W σ) := by
  unfold callK at q
  obtain ⟨hz, q⟩ := RdAt.ite q
  obtain ⟨h1, h2, h3⟩ := of_decide_eq_true hz
  have r3 : relOs K ca c M σ H e (s.dfl.map .pv) dvs := by
    have go : ∀ {ps : List PV} {vs : List V}, Paired (fun p v => KRep K ca p v) ps vs → relOs K ca c M σ H e (ps.map .pv) vs := by
      intro ps vs h
      induction h with
      | nil => exact .nil
      | cons r t ih => exact .cons (r _) ih
    exact go hd
  have rp : relOs K ca c M σ H e (pick s.src os zs (s.dfl.map .pv)) (pick s.src vs ws dvs) := pick_paired r1 r2 r3 s.src
  exact ⟨(pairedLen r1).symm.trans h1, (pairedLen r2).symm.trans h2, call_sp q S rp ((pairedLen rp).symm.trans h3)⟩
theorem je_call {E : FnE} {lvl : Nat} {s : Shape} {a : Expr} {es : List Expr} {kws : List Keyword} {ms mk : EM (List Opd)} {p pos : Pos} (ok : E.Ok rp X ca lvl) (hgd : rp = true → X.A.guards = some []) (hr : Room lvl X.A) (hg : Gl X E.name) (hs : s ∈ E.shapes) (hst : noStars (a :: es) = true)
    (hq : ∀ q ∈ kws, q.arg.isSome = true) (hks : kws.filterMap (·.arg) = s.ks) (hdb : (E.name == ("__debug__" : Str)) = false) (ha : JA X ca ms (a :: es)) (hk : JK X ca mk kws) : JE X ca (callM E.sem E.ps.length s ms mk) (.Call (.Name E.name p) (a :: es) kws pos) := fun W tk => by
  obtain ⟨f, fd, k, hl, hm, kp, F, sh⟩ := ok
  obtain ⟨dvs, its, hd, hb⟩ := sh s hs
  refine PE.imp (pe_callG F hgd (hr.mono hl) hg hm kp hb (fun σ => passAt tk σ) (ha W tk) (hk W tk) hst hq hks hdb) fun σ H Q ⟨c, M, e, S, q⟩ => ?_
  refine RdAt.bind q S fun os vs H1 M1 e1 S1 _ _ r1 q1 => ?_
  refine RdAt.bind q1 S1 fun zs ws H2 M2 e2 S2 sm _ r2 q2 => ?_
  exact call_at q2 S2 (relOs.mono r1 sm) (relOs.mono r2 (Same.refl _)) hd
theorem je_call0 {E : FnE} {lvl : Nat} {s : Shape} {kws : List Keyword} {mk : EM (List Opd)} {p pos : Pos} (ok : E.Ok rp X ca lvl) (hgd : rp = true → X.A.guards = some []) (hr : Room lvl X.A) (hg : Gl X E.name) (hs : s ∈ E.shapes)
    (hq : ∀ q ∈ kws, q.arg.isSome = true) (hks : kws.filterMap (·.arg) = s.ks) (hdb : (E.name == ("__debug__" : Str)) = false) (hk : JK X ca mk kws) : JE X ca (callM E.sem E.ps.length s opdsNil mk) (.Call (.Name E.name p) [] kws pos) := fun W tk => by
  obtain ⟨f, fd, k, hl, hm, kp, F, sh⟩ := ok
  obtain ⟨dvs, its, hd, hb⟩ := sh s hs
  refine PE.imp (pe_callG0 F hgd (hr.mono hl) hg hm kp hb (fun σ => passAt tk σ) (hk W tk) hq hks hdb) fun σ H Q ⟨c, M, e, S, q⟩ => ?_
  have q1 : RdAt X.K ca c (mk.bind fun zs => callK E.sem E.ps.length s [] zs) (relV X.K ca) W e σ Q := q
  refine RdAt.bind q1 S fun zs ws H2 M2 e2 S2 sm _ r2 q2 => ?_
  exact call_at q2 S2 .nil (relOs.mono r2 (Same.refl _)) hd
end
end QB

namespace QB
open PySem L2
/-! ### list comprehensions -/
def wipeE (e : En) : List Nat → En
  | [] => e
  | v :: vs => (wipeE e vs).set v none
def restE (e e1 : En) : List Nat → En
  | [] => e
  | v :: vs => (restE e e1 vs).set v (e1.getD v none)
def plainO : Option Slot → Bool
  | none => true
  | some (.val _) => true
  | _ => false
def cleanE (e : En) (vs : List Nat) : Bool := vs.all fun v => plainO (e.getD v none)
section
variable {ca : CA} {K : PySem.W.Frag} {c : Fx} {M M' M1 : Addr → Prop} {σ σ' σ1 : St} {H H' H1 : Hp} {e e' e1 : En} {W : WX}
theorem wipeE_length : ∀ vs : List Nat, (wipeE e vs).length = e.length
  | [] => rfl
  | v :: vs => by unfold wipeE; rw [List.length_set, wipeE_length vs]
theorem wipe_get : ∀ {vs : List Nat} {i : Nat}, (wipe σ vs)[i]? = if i ∈ vs then (σ[i]?).map fun _ => none else σ[i]?
  | [], i => by simp [wipe]
  | v :: vs, i => by
    unfold wipe
    rw [List.getElem?_set]
    by_cases h : v = i
    · subst h
      simp only [wipe_length, List.mem_cons, true_or, if_true]
      by_cases hl : v < σ.length
      · simp [hl]
      · simp [hl]
    · rw [if_neg h, wipe_get]
      have : (i ∈ v :: vs) ↔ i ∈ vs := by simp [Ne.symm h]
      simp only [this]
theorem wipeE_get : ∀ {vs : List Nat} {i : Nat}, (wipeE e vs)[i]? = if i ∈ vs then (e[i]?).map fun _ => none else e[i]?
  | [], i => by simp [wipeE]
  | v :: vs, i => by
    unfold wipeE
    rw [List.getElem?_set]
    by_cases h : v = i
    · subst h
      simp only [wipeE_length, List.mem_cons, true_or, if_true]
      by_cases hl : v < e.length
      · simp [hl]
      · simp [hl]
    · rw [if_neg h, wipeE_get]
      have : (i ∈ v :: vs) ↔ i ∈ vs := by simp [Ne.symm h]
      simp only [this]
theorem wipeE_some {vs : List Nat} {i : Nat} {s : Slot} (h : (wipeE e vs)[i]? = some (some s)) : i ∉ vs ∧ e[i]? = some (some s) := by
  rw [wipeE_get] at h
  split at h
  · cases q : e[i]? with
    | none => rw [q] at h; cases h
    | some o => rw [q] at h; cases h
  · exact ⟨by assumption, h⟩
theorem wipe_off {vs : List Nat} {i : Nat} (h : i ∉ vs) : (wipe σ vs)[i]? = σ[i]? := by rw [wipe_get, if_neg h]
theorem wipe_wipe {vs ws : List Nat} (h : ∀ i ∈ ws, i ∈ vs) : wipe (wipe σ ws) vs = wipe σ vs := by
  apply List.ext_getElem?
  intro i
  rw [wipe_get, wipe_get, wipe_get]
  by_cases hi : i ∈ vs
  · rw [if_pos hi, if_pos hi]
    split
    · cases σ[i]? <;> rfl
    · rfl
  · rw [if_neg hi, if_neg hi, if_neg fun z => hi (h i z)]
theorem Off.wipe {ws vs : List Nat} (h : Off ws σ σ') (hs : ∀ i ∈ ws, i ∈ vs) : L2.wipe σ' vs = L2.wipe σ vs := by
  apply List.ext_getElem?
  intro i
  rw [wipe_get, wipe_get]
  by_cases hi : i ∈ vs
  · rw [if_pos hi, if_pos hi]
    by_cases hl : i < σ.length
    · have hl' : i < σ'.length := by rw [h.1]; exact hl
      rw [List.getElem?_eq_getElem hl, List.getElem?_eq_getElem hl']; rfl
    · have hl' : ¬ i < σ'.length := by rw [h.1]; exact hl
      rw [List.getElem?_eq_none (by omega), List.getElem?_eq_none (by omega)]
  · rw [if_neg hi, if_neg hi, h.2 i fun z => hi (hs i z)]
theorem Sim.wiped (S : Sim K ca c M σ H e) {vs : List Nat} (hp : ∀ p ∈ c.par, p.1 ∉ vs) : Sim K ca c M (wipe σ vs) H (wipeE e vs) where
  len := by rw [wipeE_length, wipe_length]; exact S.len
  slot := fun i s h => by
    obtain ⟨h1, h2⟩ := wipeE_some h
    obtain ⟨v, e1, r⟩ := S.slot i s h2
    exact ⟨v, by rw [wipe_off h1]; exact e1, r⟩
  inj := fun i j s t a h1 h2 k1 k2 q1 q2 => by
    obtain ⟨n1, h1⟩ := wipeE_some h1
    obtain ⟨n2, h2⟩ := wipeE_some h2
    rw [wipe_off n1] at q1
    rw [wipe_off n2] at q2
    exact S.inj i j s t a h1 h2 k1 k2 q1 q2
  ext := S.ext
  frame := S.frame
  ownd := fun i s a h k q => by
    obtain ⟨n1, h1⟩ := wipeE_some h
    rw [wipe_off n1] at q
    exact S.ownd i s a h1 k q
  par := fun p hq => by
    obtain ⟨q1, s, q2, q3⟩ := S.par p hq
    have n := hp p hq
    exact ⟨by rw [wipe_off n]; exact q1, s, by rw [wipeE_get, if_neg n]; exact q2, q3⟩
  there := S.there
  cthere := S.cthere
  sub := S.sub
theorem restE_length : ∀ vs : List Nat, (restE e e1 vs).length = e.length
  | [] => rfl
  | v :: vs => by unfold restE; rw [List.length_set, restE_length vs]
theorem restE_get : ∀ {vs : List Nat} {i : Nat}, i < e.length → (restE e e1 vs)[i]? = if i ∈ vs then some (e1.getD i none) else e[i]?
  | [], i, _ => by simp [restE]
  | v :: vs, i, hl => by
    unfold restE
    rw [List.getElem?_set]
    by_cases h : v = i
    · subst h
      simp [restE_length, hl]
    · rw [if_neg h, restE_get hl]
      have : (i ∈ v :: vs) ↔ i ∈ vs := by simp [Ne.symm h]
      simp only [this]
theorem restE_some {vs : List Nat} {i : Nat} {s : Slot} (h : (restE e e1 vs)[i]? = some (some s)) : (i ∈ vs ∧ e1[i]? = some (some s)) ∨ (i ∉ vs ∧ e[i]? = some (some s)) := by
  have hl : i < e.length := by
    have := (List.getElem?_eq_some_iff.mp h).1
    rwa [restE_length] at this
  rw [restE_get hl] at h
  split at h
  · rename_i hi
    refine .inl ⟨hi, ?_⟩
    rw [List.getD_eq_getElem?_getD] at h
    cases q : e1[i]? with
    | none => rw [q] at h; cases h
    | some o => rw [q] at h; cases h; rfl
  · exact .inr ⟨by assumption, h⟩
theorem clean_val {vs : List Nat} {i : Nat} {s : Slot} (h : cleanE e vs = true) (hi : i ∈ vs) (q : e[i]? = some (some s)) : ∃ p, s = .val p := by
  have := List.all_eq_true.mp h i hi
  rw [List.getD_eq_getElem?_getD, q] at this
  cases s with
  | val p => exact ⟨p, rfl⟩
  | exn o => cases this
  | own o => cases this
  | par o => cases this
theorem clean_par (S : Sim K ca c M σ H e) {vs : List Nat} (h : cleanE e vs = true) : ∀ p ∈ c.par, p.1 ∉ vs := fun p hp hi => by
  obtain ⟨_, s, q2, q3⟩ := S.par p hp
  obtain ⟨x, rfl⟩ := clean_val h hi q2
  cases q3
theorem Sim.restored (S1 : Sim K ca c M1 σ H1 e1) {vs : List Nat} (S : Sim K ca c M (wipe σ vs) H e) (sm : Same (hid H1 M1) (hid H M)) (hcl : cleanE e1 vs = true) : Sim K ca c M σ H (restE e e1 vs) where
  len := by rw [restE_length, S.len, wipe_length]
  slot := fun i s h => by
    rcases restE_some h with ⟨hi, q⟩ | ⟨hi, q⟩
    · obtain ⟨p, rfl⟩ := clean_val hcl hi q
      obtain ⟨v, e2, r⟩ := S1.slot i _ q
      exact ⟨v, e2, Rep.mono sm r⟩
    · obtain ⟨v, e2, r⟩ := S.slot i s q
      rw [wipe_off hi] at e2
      exact ⟨v, e2, r⟩
  inj := fun i j s t a h1 h2 k1 k2 q1 q2 => by
    rcases restE_some h1 with ⟨hi, q⟩ | ⟨hi, q⟩
    · obtain ⟨p, rfl⟩ := clean_val hcl hi q; cases k1
    · rcases restE_some h2 with ⟨hj, q'⟩ | ⟨hj, q'⟩
      · obtain ⟨p, rfl⟩ := clean_val hcl hj q'; rcases k2 with k | k <;> cases k
      · exact S.inj i j s t a q q' k1 k2 (by rw [wipe_off hi]; exact q1) (by rw [wipe_off hj]; exact q2)
  ext := S.ext
  frame := S.frame
  ownd := fun i s a h k q => by
    rcases restE_some h with ⟨hi, q'⟩ | ⟨hi, q'⟩
    · obtain ⟨p, rfl⟩ := clean_val hcl hi q'; cases k
    · exact S.ownd i s a q' k (by rw [wipe_off hi]; exact q)
  par := fun p hq => by
    obtain ⟨q1, s, q2, q3⟩ := S.par p hq
    have n := clean_par S1 hcl p hq
    rw [wipe_off n] at q1
    refine ⟨q1, s, ?_, q3⟩
    rw [restE_get (List.getElem?_eq_some_iff.mp q2).1, if_neg n]
    exact q2
  there := S.there
  cthere := S.cthere
  sub := S.sub
/-- no slot that may change holds D -/
def NoD (σ : St) (e : En) (D : Addr) : Prop := ∀ (i : Nat) s, e[i]? = some (some s) → s.chg = true → σ[i]? ≠ some (some (.ref D))
/-- the block's state: the new list at D, hidden, holds ps -/
structure BSt (K : PySem.W.Frag) (ca : CA) (c : Fx) (D : Addr) (M : Addr → Prop) (σ : St) (H : Hp) (e : En) (ps : List PV) : Prop where
  sim : Sim K ca c M σ H e
  no0 : ¬ c.M0 D
  hid : M D
  noD : NoD σ e D
  lst : ∃ vs, H D = some (.lst vs) ∧ Reps K ca (QB.hid H M) ps vs
theorem pin_chg {s : Slot} (h : s.pin = true) : s.chg = true := by cases s <;> first | rfl | cases h
theorem BSt.step {D : Addr} {ps : List PV} (B : BSt K ca c D M σ H e ps) (S' : Sim K ca (Fx.at M σ H e c.par) M' σ' H' e') : BSt K ca c D M' σ' H' e' ps := by
  have nch : ¬ (Fx.at M σ H e c.par).ch D := fun ⟨i, s, h1, h2, h3⟩ => B.noD i s h1 h2 h3
  obtain ⟨m, q⟩ := S'.frame D B.hid nch
  obtain ⟨vs, h1, h2⟩ := B.lst
  refine ⟨B.sim.backH S', B.no0, m, fun i s h k z => ?_, vs, q.trans h1, h2.mono S'.ext⟩
  rcases S'.ownd i s D h k z with w | w
  · exact nch w
  · exact w B.hid
theorem BSt.wiped {D : Addr} {ps : List PV} {vs : List Nat} (B : BSt K ca c D M σ H e ps) (hp : ∀ p ∈ c.par, p.1 ∉ vs) : BSt K ca c D M (wipe σ vs) H (wipeE e vs) ps :=
  ⟨B.sim.wiped hp, B.no0, B.hid, fun i s h k z => by
    obtain ⟨n, q⟩ := wipeE_some h
    rw [wipe_off n] at z
    exact B.noD i s q k z, B.lst⟩
theorem hid_upd {D : Addr} {o : HO} (h : M D) : hid (upd H D o) M = hid H M := by
  funext a
  unfold hid
  by_cases ha : M a
  · simp [ha]
  · have : a ≠ D := fun z => ha (z ▸ h)
    simp [ha, upd_ne this]
theorem BSt.app {D : Addr} {ps : List PV} {p : PV} {y : V} {acc : List V} (B : BSt K ca c D M σ H e ps) (r : Rep K ca (QB.hid H M) p y) (ha : H D = some (.lst acc)) : BSt K ca c D M σ (upd H D (.lst (acc ++ [y]))) e (ps ++ [p]) := by
  have hh := hid_upd (H := H) (o := .lst (acc ++ [y])) B.hid
  have S := B.sim
  refine ⟨⟨S.len, fun i s h => ?_, S.inj, by rw [hh]; exact S.ext, fun a h0 hn => ?_, S.ownd, S.par, fun a h => upd_live (S.there a h), fun a h => upd_live (S.cthere a h), S.sub⟩, B.no0, B.hid, B.noD, acc ++ [y], upd_same, ?_⟩
  · obtain ⟨v, e1, rs⟩ := S.slot i s h
    refine ⟨v, e1, ?_⟩
    have ne : s.chg = true → ∀ b, v = .ref b → upd H D (.lst (acc ++ [y])) b = H b := fun k b eb => upd_ne fun z => by
      subst eb; subst z
      exact B.noD i s h k e1
    cases s with
    | val q => show Rep K ca (QB.hid _ M) q v; rw [hh]; exact rs
    | exn q => show XSl K ca (QB.hid _ M) q v; rw [hh]; exact rs
    | own m => obtain ⟨b, eb, mb, rr⟩ := rs; refine ⟨b, eb, mb, ?_⟩; rw [hh]; exact rr.mono (Same.refl _) (ne rfl b eb)
    | par m => obtain ⟨b, eb, mb, rr⟩ := rs; refine ⟨b, eb, mb, ?_⟩; rw [hh]; exact rr.mono (Same.refl _) (ne rfl b eb)
  · obtain ⟨m, q⟩ := S.frame a h0 hn
    refine ⟨m, ?_⟩
    rw [upd_ne fun z => B.no0 (by rw [← z]; exact h0)]
    exact q
  · rw [hh]
    obtain ⟨vs, h1, h2⟩ := B.lst
    rw [ha] at h1
    cases h1
    exact h2.append (Reps.one r)
theorem BSt.start (S1 : Sim K ca c M1 σ H1 e1) {D : Addr} (hD : H1 D = none) : BSt K ca c D (addM M1 D) σ (upd H1 D (.lst [])) e1 [] :=
  ⟨S1.allocA hD, S1.fresh0 hD, .inr rfl, fun i s h k z => by
    have w := (S1.chg_at h (.inl k) z).2
    rw [hD] at w
    exact absurd w (by decide), [], upd_same, rfl⟩
/-- the list is handed on -/
theorem BSt.give {D : Addr} {ps : List PV} (B : BSt K ca c D M σ H e ps) : ∃ M', Sim K ca c M' σ H e ∧ relV K ca c M' σ H e (.own (.lst ps)) (.ref D) := by
  have S := B.sim
  have em : addM (subM M D) D = M := by
    funext a
    apply propext
    constructor
    · rintro (h | h)
      · exact h.1
      · rw [h]; exact B.hid
    · intro h
      by_cases ha : a = D
      · exact .inr ha
      · exact .inl ⟨h, ha⟩
  have sm : Same (QB.hid H M) (QB.hid H (subM M D)) := hid_less fun b z => z.1
  obtain ⟨vs, h1, h2⟩ := B.lst
  refine ⟨subM M D, ⟨S.len, fun i s h => ?_, S.inj, S.ext.trans sm, fun a h0 hn => ?_, S.ownd, S.par, fun a h => S.there a h.1, S.cthere, S.sub⟩, ⟨D, vs, rfl, hid_of.mpr ⟨h1, fun z => z.2 rfl⟩, h2.mono sm⟩, D, rfl, fun z => z.2 rfl, by rw [em]; exact S, vs, h1, by rw [em]; exact h2⟩
  · obtain ⟨v, e1, rs⟩ := S.slot i s h
    refine ⟨v, e1, ?_⟩
    have ne : s.chg = true → ∀ b, v = .ref b → b ≠ D := fun k b eb z => by
      subst eb; subst z
      exact B.noD i s h k e1
    cases s with
    | val q => exact Rep.mono sm rs
    | exn x => exact XSl.mono sm rs
    | own m => obtain ⟨b, eb, mb, rr⟩ := rs; exact ⟨b, eb, ⟨mb, ne rfl b eb⟩, rr.mono sm rfl⟩
    | par m => obtain ⟨b, eb, mb, rr⟩ := rs; exact ⟨b, eb, ⟨mb, ne rfl b eb⟩, rr.mono sm rfl⟩
  · obtain ⟨m, q⟩ := S.frame a h0 hn
    exact ⟨⟨m, fun z => B.no0 (by rw [← z]; exact h0)⟩, q⟩
end
/-! #### the meaning -/
def lcTurn (b : Bnd) (tt : EM Bool) (vs : List Nat) (inner : EM (List PV)) (p : PV) : EM (List PV) := fun e => match b p e with
  | none => .bad
  | some e1 => match tt e1 with
    | .ok true e2 => match inner e2 with
      | .ok rs e3 => .ok rs (wipeE e3 vs)
      | _ => .bad
    | .ok false e2 => .ok [] (wipeE e2 vs)
    | _ => .bad
def lcLoop (turn : PV → EM (List PV)) : List PV → EM (List PV)
  | [], e => .ok [] e
  | p :: ps, e => match turn p e with
    | .ok rs e1 => match lcLoop turn ps e1 with
      | .ok ss e2 => .ok (rs ++ ss) e2
      | _ => .bad
    | _ => .bad
def eltM (te : EM RV) : EM (List PV) := fun e => match te e with
  | .ok r e' => .ok [r.pv] e'
  | _ => .bad
/-- the second clause -/
def lcIn (m : EM (List PV)) (b : Bnd) (tt : EM Bool) (vs : List Nat) (inner : EM (List PV)) : EM (List PV) := fun e => match m e with
  | .ok xs e' => lcLoop (lcTurn b tt vs inner) xs (wipeE e' vs)
  | _ => .bad
def lcM (m : EM (List PV)) (b : Bnd) (tt : EM Bool) (vs : List Nat) (inner : EM (List PV)) : EM RV := fun e => match m e with
  | .ok xs e1 => if cleanE e1 vs then match lcLoop (lcTurn b tt vs inner) xs (wipeE e1 vs) with
    | .ok rs e2 => if szOk rs.length then .ok (.own (.lst rs)) (restE e2 e1 vs) else .bad
    | _ => .bad else .bad
  | .exc x e1 => .exc x e1
  | .bad => .bad
def noW : WX := fun _ _ _ _ => False
section
variable {X : Cx} {ca : CA} {K : PySem.W.Frag} {c : Fx} {M M' M1 : Addr → Prop} {σ σ' σ1 : St} {H H' H1 : Hp} {e e' e1 : En} {W : WX}
theorem lcLoop_cons {turn : PV → EM (List PV)} {p : PV} {ps rs : List PV} (h : lcLoop turn (p :: ps) e = .ok rs e') : ∃ r1 e1 r2, turn p e = .ok r1 e1 ∧ lcLoop turn ps e1 = .ok r2 e' ∧ rs = r1 ++ r2 := by
  unfold lcLoop at h
  cases z : turn p e with
  | ok r1 e1 =>
    simp only [z] at h
    cases z2 : lcLoop turn ps e1 with
    | ok r2 e2 => simp only [z2] at h; cases h; exact ⟨r1, e1, r2, rfl, z2, rfl⟩
    | exc x e2 => simp only [z2] at h; cases h
    | bad => simp only [z2] at h; cases h
  | exc x e1 => simp only [z] at h; cases h
  | bad => simp only [z] at h; cases h
theorem lcTurn_inv {b : Bnd} {tt : EM Bool} {vs : List Nat} {inner : EM (List PV)} {p : PV} {rs : List PV} (h : lcTurn b tt vs inner p e = .ok rs e') :
    ∃ e1 k e2, b p e = some e1 ∧ tt e1 = .ok k e2 ∧ ((k = true ∧ ∃ e3, inner e2 = .ok rs e3 ∧ e' = wipeE e3 vs) ∨ (k = false ∧ rs = [] ∧ e' = wipeE e2 vs)) := by
  unfold lcTurn at h
  cases z : b p e with
  | none => simp only [z] at h; cases h
  | some e1 =>
    simp only [z] at h
    cases z2 : tt e1 with
    | ok k e2 =>
      cases k with
      | true =>
        simp only [z2] at h
        cases z3 : inner e2 with
        | ok r3 e3 => simp only [z3] at h; cases h; exact ⟨e1, true, e2, rfl, z2, .inl ⟨rfl, e3, z3, rfl⟩⟩
        | exc x e3 => simp only [z3] at h; cases h
        | bad => simp only [z3] at h; cases h
      | false => simp only [z2] at h; cases h; exact ⟨e1, false, e2, rfl, z2, .inr ⟨rfl, rfl, rfl⟩⟩
    | exc x e2 => simp only [z2] at h; cases h
    | bad => simp only [z2] at h; cases h
theorem eltM_inv {te : EM RV} {rs : List PV} (h : eltM te e = .ok rs e') : ∃ r, te e = .ok r e' ∧ rs = [r.pv] := by
  unfold eltM at h
  cases z : te e with
  | ok r e1 => simp only [z] at h; cases h; exact ⟨r, rfl, rfl⟩
  | exc x e1 => simp only [z] at h; cases h
  | bad => simp only [z] at h; cases h
/-- a test, a value within the block -/
theorem BSt.rd {α β : Type} {D : Addr} {ps : List PV} {m : EM α} {rel : RelT α β} {a : α} {P : β → Hp → Prop} (B : BSt K ca c D M σ H e ps) (h : m e = .ok a e')
    (k : ∀ b H' M', BSt K ca c D M' σ H' e' ps → Same (QB.hid H M) (QB.hid H' M') → rel (Fx.at M σ H e c.par) M' σ H' e' a b → P b H') : Rd K ca m rel noW σ H P := by
  refine ⟨_, M, e, B.sim.here, ?_⟩
  unfold RdAt
  rw [h]
  exact fun b H' M' S' r => k b H' M' (B.step S') S'.ext r
/-- one turn's way to its element -/
theorem lc_elt {D : Addr} {ps rs all : List PV} {te : EM RV} {Nx : Hp → Prop} (B : BSt K ca c D M σ H e ps) (h : eltM te e = .ok rs e') (hz : (ps ++ rs).length ≤ sizeLine)
    (k : ∀ H' M', BSt K ca c D M' σ H' e' (ps ++ rs) → Same (QB.hid H M) (QB.hid H' M') → Nx H') : Rd K ca te (relV K ca) noW σ H fun y H4 => ∃ acc, H4 D = some (.lst acc) ∧ acc.length < sizeLine ∧ Nx (upd H4 D (.lst (acc ++ [y]))) := by
  obtain ⟨r, h1, rfl⟩ := eltM_inv h
  refine B.rd h1 fun y H4 M4 B4 sm rr => ?_
  obtain ⟨acc, q1, q2⟩ := B4.lst
  refine ⟨acc, q1, ?_, k _ _ (B4.app rr.1 q1) ?_⟩
  · rw [q2.length]
    rw [List.length_append] at hz
    exact hz
  · rw [hid_upd B4.hid]
    exact sm
/-- what the block's code is judged by -/
def inBlk (X : Cx) (scope : Scope) (P : Cx → Prop) : Prop := ∀ (s : Shared) (H : Hp) (C : Addr) (cl : List (Str × Addr)) (fp : List Addr), P (X.blk s H scope (compEnvC scope cl C X.env) fp)
theorem noW_takes : Takes X noW := fun u s' ⟨a, B, sI, pins, σ, H, cls, d, e, I, nb, up, sky, na, os, ag, w⟩ => w.elim
/-- the tests of a clause -/
inductive Tst where
  | no | one (m : EM Bool)
def Tst.m : Tst → EM Bool
  | .no => EM.ret true
  | .one m => m
def Tst.J (X : Cx) (ca : CA) : Tst → List Expr → Prop
  | .no, ifs => ifs = []
  | .one m, ifs => ∃ e, ifs = [e] ∧ JT X ca m e
theorem pts_of {t : Tst} {ifs : List Expr} (h : t.J X ca ifs) : PTs X ifs (Rd X.K ca t.m relB noW) := by
  cases t with
  | no =>
    cases h
    refine ⟨fun pins s σ H Q I ⟨c, M, e, S, q⟩ => pts_nil.run pins s σ H Q I ?_⟩
    exact q.ret S rfl
  | one m =>
    obtain ⟨e, rfl, h⟩ := h
    exact pts_one (h noW noW_takes)
theorem tup_par {J : It} {xs : List PV} {i : Nat} {p : PV} (h : xs[i]? = some p) : i < xs.length := (List.getElem?_eq_some_iff.mp h).1
section
/-- the block before turn i -/
def LcAt (K : PySem.W.Frag) (ca : CA) (c : Fx) (D : Addr) (σw : St) (H1 : Hp) (M1 : Addr → Prop) (turn : PV → EM (List PV)) (xs : List PV) (e2 : En) (rs : List PV) (H : Hp) : Prop := ∃ M e ps r2, BSt K ca c D M σw H e ps ∧ Same (QB.hid H1 M1) (QB.hid H M) ∧ lcLoop turn xs e = .ok r2 e2 ∧ ps ++ r2 = rs
variable {elt tg iter tg1 iter1 : Expr} {ifs ifs1 : List Expr} {scope : Scope} {own : List (Str × Nat)} {pos : Pos} {m m1 : EM (List PV)} {t t1 : Tgt} {ts ts1 : Tst} {te : EM RV}
theorem lc_sem (hg : GOk K ca t.b t.ws (t.g K)) (hvs : ∀ i ∈ t.ws, i ∈ own.map (·.2)) {Q : VK} (h : Rd K ca (lcM m t.b ts.m (own.map (·.2)) (eltM te)) (relV K ca) W σ H Q) :
    tLc (Rd K ca m (relI K ca) W) (t.g K) (Rd K ca ts.m relB noW) (Rd K ca te (relV K ca) noW) (own.map (·.2)) σ H Q := by
  obtain ⟨c, M, e, S, q⟩ := h
  refine ⟨c, M, e, S, ?_⟩
  unfold RdAt lcM at q
  unfold RdAt
  cases z : m e with
  | bad => simp only [z] at q
  | exc x e1 => simp only [z] at q; exact q
  | ok xs e1 =>
    simp only [z] at q
    intro J H1 M1 S1 it D hD
    cases hcl : cleanE e1 (own.map (·.2)) with
    | false => simp only [hcl, Bool.false_eq_true, if_false] at q
    | true =>
    simp only [hcl, if_true] at q
    cases z2 : lcLoop (lcTurn t.b ts.m (own.map (·.2)) (eltM te)) xs (wipeE e1 (own.map (·.2))) with
    | exc x e2 => simp only [z2] at q
    | bad => simp only [z2] at q
    | ok rs e2 =>
    simp only [z2] at q
    cases hz : szOk rs.length with
    | false => simp only [hz, Bool.false_eq_true, if_false] at q
    | true =>
    simp only [hz, if_true] at q
    have hz := of_decide_eq_true hz
    generalize hvv : own.map (·.2) = vs at hcl z2 q hvs ⊢
    have hpar := clean_par S1 hcl
    have B0 := BSt.start (S1.wiped hpar) hD
    refine ⟨fun i mm H => mm = xs.length - i ∧ i ≤ xs.length ∧ LcAt K ca c D (wipe σ vs) H1 M1 (lcTurn t.b ts.m vs (eltM te)) (xs.drop i) e2 rs H,
      ⟨xs.length, by simp, Nat.zero_le _, _, _, [], rs, B0, same_updA hD, z2, rfl⟩, ?_⟩
    rintro i mm H ⟨rfl, hi, M2, e3, ps, r2, B, sm, hl, hrs⟩
    by_cases hlt : i < xs.length
    · refine .inr ⟨it.go H M2 i hlt sm, LcAt K ca c D (wipe σ vs) H1 M1 (lcTurn t.b ts.m vs (eltM te)) (xs.drop (i + 1)) e2 rs,
        fun H' h' => ⟨xs.length - (i + 1), by omega, rfl, hlt, h'⟩, fun x H' y => ?_⟩
      obtain ⟨p, hp, rp⟩ := it.yld H M2 i x H' hlt sm y
      obtain ⟨S', s2, s3, r'⟩ := rp _ _ e3 B.sim.here
      have B' := B.step S'
      rw [drop_get hp] at hl
      obtain ⟨r1, e4, r3, t1, t2, rfl⟩ := lcLoop_cons hl
      obtain ⟨e5, k, e6, u1, u2, u3⟩ := lcTurn_inv t1
      refine hg _ M2 _ H' e3 p x _ e5 B'.sim.here r' u1 fun σ2 S5 off => ⟨?_, ?_⟩
      · rw [off.wipe hvs, wipe_wipe fun _ h => h]
      · have B5 := B'.step S5
        have ew : wipe σ2 vs = wipe σ vs := by rw [off.wipe hvs, wipe_wipe fun _ h => h]
        refine B5.rd u2 fun b H6 M6 B6 sm6 rb => ?_
        cases rb
        rcases u3 with ⟨rfl, e7, v1, rfl⟩ | ⟨rfl, rfl, rfl⟩
        · rw [if_pos rfl]
          refine lc_elt (all := rs) (Nx := LcAt K ca c D (wipe σ vs) H1 M1 (lcTurn t.b ts.m vs (eltM te)) (xs.drop (i + 1)) e2 rs) B6 v1 ?_ fun H7 M7 B7 sm7 => ?_
          · rw [← hrs] at hz
            simp only [List.length_append] at hz ⊢
            omega
          · have B8 := B7.wiped (vs := vs) hpar
            rw [ew] at B8
            exact ⟨M7, _, _, r3, B8, ((sm.trans s2).trans sm6).trans sm7, t2, by rw [List.append_assoc]; exact hrs⟩
        · rw [if_neg (by decide)]
          have B8 := B6.wiped (vs := vs) hpar
          rw [ew] at B8
          exact ⟨M6, _, _, r3, B8, (sm.trans s2).trans sm6, t2, hrs⟩
    · have e0 : i = xs.length := by omega
      subst e0
      refine .inl ⟨it.stop H M2 sm, ?_⟩
      rw [List.drop_length] at hl
      cases hl
      rw [List.append_nil] at hrs
      subst hrs
      obtain ⟨vs', l1, l2⟩ := B.lst
      have Br : BSt K ca c D M2 σ H (restE e2 e1 vs) ps := ⟨S1.restored B.sim sm hcl, B.no0, B.hid, fun j s h k w => by
        rcases restE_some h with ⟨hi, q'⟩ | ⟨hi, q'⟩
        · obtain ⟨p, rfl⟩ := clean_val hcl hi q'; cases k
        · exact B.noD j s q' k (by rw [wipe_off hi]; exact w), vs', l1, l2⟩
      obtain ⟨M', S', rv⟩ := Br.give
      exact q _ H M' S' rv
theorem je_lc (hc : X.calm = true) (hN : X.N.Nodup) (hset : fSeq iter = false) (hi : JI X ca m tg iter) (ok : BlkOk X.N X.env.scope scope own) (hvs : ∀ i ∈ t.ws, i ∈ own.map (·.2))
    (hg : inBlk X scope fun Y => JG Y t tg) (ht : inBlk X scope fun Y => ts.J Y ca ifs) (he : inBlk X scope fun Y => JE Y ca te elt) : JE X ca (lcM m t.b ts.m (own.map (·.2)) (eltM te)) (.ListComp elt [⟨tg, iter, ifs, 0⟩] scope pos) := fun W tk => by
  exact PE.imp (pe_lc (g := t.g X.K) (tt := Rd X.K ca ts.m relB noW) (te := Rd X.K ca te (relV X.K ca) noW) hc hN (hi W tk) ok (fun s H C cl fp => hg s H C cl fp) (fun s H C cl fp => pts_of (ht s H C cl fp)) (fun s H C cl fp => he s H C cl fp noW noW_takes) (noFold hset)) fun σ H Q h => lc_sem t.ok hvs h
theorem lcIn_inv {b : Bnd} {tt : EM Bool} {vs : List Nat} {inner : EM (List PV)} {rs : List PV} (h : lcIn m b tt vs inner e = .ok rs e') : ∃ xs e1, m e = .ok xs e1 ∧ lcLoop (lcTurn b tt vs inner) xs (wipeE e1 vs) = .ok rs e' := by
  unfold lcIn at h
  cases z : m e with
  | ok xs e1 => simp only [z] at h; exact ⟨xs, e1, rfl, h⟩
  | exc x e1 => simp only [z] at h; cases h
  | bad => simp only [z] at h; cases h
theorem lc2_sem (hvs : ∀ i ∈ t.ws, i ∈ own.map (·.2)) (hvs1 : ∀ i ∈ t1.ws, i ∈ own.map (·.2)) {Q : VK} (h : Rd K ca (lcM m t.b ts.m (own.map (·.2)) (lcIn m1 t1.b ts1.m t1.ws (eltM te))) (relV K ca) W σ H Q) :
    tLc2 (Rd K ca m (relI K ca) W) (t.g K) (Rd K ca ts.m relB noW) (Rd K ca m1 (relI K ca) noW) (t1.g K) (Rd K ca ts1.m relB noW) (Rd K ca te (relV K ca) noW) (own.map (·.2)) t1.ws σ H Q := by
  obtain ⟨c, M, e, S, q⟩ := h
  refine ⟨c, M, e, S, ?_⟩
  unfold RdAt lcM at q
  unfold RdAt
  cases z : m e with
  | bad => simp only [z] at q
  | exc x e1 => simp only [z] at q; exact q
  | ok xs e1 =>
    simp only [z] at q
    intro J H1 M1 S1 it D hD
    cases hcl : cleanE e1 (own.map (·.2)) with
    | false => simp only [hcl, Bool.false_eq_true, if_false] at q
    | true =>
    simp only [hcl, if_true] at q
    cases z2 : lcLoop (lcTurn t.b ts.m (own.map (·.2)) (lcIn m1 t1.b ts1.m t1.ws (eltM te))) xs (wipeE e1 (own.map (·.2))) with
    | exc x e2 => simp only [z2] at q
    | bad => simp only [z2] at q
    | ok rs e2 =>
    simp only [z2] at q
    cases hz : szOk rs.length with
    | false => simp only [hz, Bool.false_eq_true, if_false] at q
    | true =>
    simp only [hz, if_true] at q
    have hz := of_decide_eq_true hz
    generalize hvv : own.map (·.2) = vs at hcl z2 q hvs hvs1 ⊢
    have hpar := clean_par S1 hcl
    have hpar1 : ∀ p ∈ c.par, p.1 ∉ t1.ws := fun p hp hi => hpar p hp (hvs1 _ hi)
    have B0 := BSt.start (S1.wiped hpar) hD
    generalize htn : lcTurn t.b ts.m vs (lcIn m1 t1.b ts1.m t1.ws (eltM te)) = tn at z2
    refine ⟨fun i mm H => mm = xs.length - i ∧ i ≤ xs.length ∧ LcAt K ca c D (wipe σ vs) H1 M1 tn (xs.drop i) e2 rs H,
      ⟨xs.length, by simp, Nat.zero_le _, _, _, [], rs, B0, same_updA hD, z2, rfl⟩, ?_⟩
    rintro i mm H ⟨rfl, hi, M2, e3, ps, r2, B, sm, hl, hrs⟩
    by_cases hlt : i < xs.length
    · refine .inr ⟨it.go H M2 i hlt sm, LcAt K ca c D (wipe σ vs) H1 M1 tn (xs.drop (i + 1)) e2 rs,
        fun H' h' => ⟨xs.length - (i + 1), by omega, rfl, hlt, h'⟩, fun x H' y => ?_⟩
      obtain ⟨p, hp, rp⟩ := it.yld H M2 i x H' hlt sm y
      obtain ⟨S', s2, s3, r'⟩ := rp _ _ e3 B.sim.here
      have B' := B.step S'
      rw [drop_get hp] at hl
      obtain ⟨r1, e4, r3, w1, w2, rfl⟩ := lcLoop_cons hl
      have w1' := w1
      rw [← htn] at w1'
      obtain ⟨e5, k, e6, u1, u2, u3⟩ := lcTurn_inv w1'
      refine t.ok _ M2 _ H' e3 p x _ e5 B'.sim.here r' u1 fun σ2 S5 off => ⟨?_, ?_⟩
      · rw [off.wipe hvs, wipe_wipe fun _ h => h]
      · have B5 := B'.step S5
        have ew : wipe σ2 vs = wipe σ vs := by rw [off.wipe hvs, wipe_wipe fun _ h => h]
        refine B5.rd u2 fun b H6 M6 B6 sm6 rb => ?_
        cases rb
        rcases u3 with ⟨rfl, e7, v1, rfl⟩ | ⟨rfl, rfl, rfl⟩
        · rw [if_pos rfl]
          obtain ⟨xs1, e8, k1, k2⟩ := lcIn_inv v1
          refine B6.rd k1 fun J1 H8 M8 B8 sm8 it1 => ?_
          have it1 : ItOk K ca (QB.hid H8 M8) J1 xs1 := it1
          have B9 := B8.wiped (vs := t1.ws) hpar1
          refine ⟨fun j mm H => mm = xs1.length - j ∧ j ≤ xs1.length ∧ LcAt K ca c D (wipe σ2 t1.ws) H8 M8 (lcTurn t1.b ts1.m t1.ws (eltM te)) (xs1.drop j) e7 (ps ++ r1) H,
            ⟨xs1.length, by simp, Nat.zero_le _, M8, _, ps, r1, B9, Same.refl _, k2, rfl⟩, ?_⟩
          rintro j mm Hj ⟨rfl, hj, Mj, ej, pj, rj, Bj, smj, lj, hrj⟩
          by_cases hlt1 : j < xs1.length
          · refine .inr ⟨it1.go Hj Mj j hlt1 smj, LcAt K ca c D (wipe σ2 t1.ws) H8 M8 (lcTurn t1.b ts1.m t1.ws (eltM te)) (xs1.drop (j + 1)) e7 (ps ++ r1),
              fun H' h' => ⟨xs1.length - (j + 1), by omega, rfl, hlt1, h'⟩, fun x1 Hx y1 => ?_⟩
            obtain ⟨p1, hp1, rp1⟩ := it1.yld Hj Mj j x1 Hx hlt1 smj y1
            obtain ⟨Sx, sx2, sx3, rx'⟩ := rp1 _ _ ej Bj.sim.here
            have Bx := Bj.step Sx
            rw [drop_get hp1] at lj
            obtain ⟨a1, ea, a3, b1, b2, rfl⟩ := lcLoop_cons lj
            obtain ⟨eb, kb, ec, c1, c2, c3⟩ := lcTurn_inv b1
            refine t1.ok _ Mj _ Hx ej p1 x1 _ eb Bx.sim.here rx' c1 fun σ3 S3 off1 => ⟨?_, ?_⟩
            · rw [off1.wipe fun _ h => h, wipe_wipe fun _ h => h]
            · have Bb := Bx.step S3
              have ew1 : wipe σ3 t1.ws = wipe σ2 t1.ws := by rw [off1.wipe fun _ h => h, wipe_wipe fun _ h => h]
              refine Bb.rd c2 fun b Hc Mc Bc smc rb => ?_
              cases rb
              rcases c3 with ⟨rfl, ed, d1, rfl⟩ | ⟨rfl, rfl, rfl⟩
              · rw [if_pos rfl]
                refine lc_elt (all := rs) (Nx := LcAt K ca c D (wipe σ2 t1.ws) H8 M8 (lcTurn t1.b ts1.m t1.ws (eltM te)) (xs1.drop (j + 1)) e7 (ps ++ r1)) Bc d1 ?_ fun Hd Md Bd smd => ?_
                · have l1 : (ps ++ r1).length = (pj ++ (a1 ++ a3)).length := by rw [hrj]
                  have l2 : rs.length = (ps ++ (r1 ++ r3)).length := by rw [hrs]
                  simp only [List.length_append] at l1 l2 ⊢
                  omega
                · have Be := Bd.wiped (vs := t1.ws) hpar1
                  rw [ew1] at Be
                  exact ⟨Md, _, _, a3, Be, ((smj.trans sx2).trans smc).trans smd, b2, by rw [List.append_assoc]; exact hrj⟩
              · rw [if_neg (by decide)]
                have Be := Bc.wiped (vs := t1.ws) hpar1
                rw [ew1] at Be
                exact ⟨Mc, _, _, a3, Be, (smj.trans sx2).trans smc, b2, hrj⟩
          · have e0 : j = xs1.length := by omega
            subst e0
            refine .inl ⟨it1.stop Hj Mj smj, ?_⟩
            rw [List.drop_length] at lj
            cases lj
            rw [List.append_nil] at hrj
            subst hrj
            have Be := Bj.wiped (vs := vs) hpar
            rw [wipe_wipe hvs1, ew] at Be
            exact ⟨Mj, _, _, r3, Be, (((sm.trans s2).trans sm6).trans sm8).trans smj, w2, by rw [List.append_assoc]; exact hrs⟩
        · rw [if_neg (by decide)]
          have B8 := B6.wiped (vs := vs) hpar
          rw [ew] at B8
          exact ⟨M6, _, _, r3, B8, (sm.trans s2).trans sm6, w2, hrs⟩
    · have e0 : i = xs.length := by omega
      subst e0
      refine .inl ⟨it.stop H M2 sm, ?_⟩
      rw [List.drop_length] at hl
      cases hl
      rw [List.append_nil] at hrs
      subst hrs
      obtain ⟨vs', l1, l2⟩ := B.lst
      have Br : BSt K ca c D M2 σ H (restE e2 e1 vs) ps := ⟨S1.restored B.sim sm hcl, B.no0, B.hid, fun j s h k w => by
        rcases restE_some h with ⟨hi, q'⟩ | ⟨hi, q'⟩
        · obtain ⟨p, rfl⟩ := clean_val hcl hi q'; cases k
        · exact B.noD j s q' k (by rw [wipe_off hi]; exact w), vs', l1, l2⟩
      obtain ⟨M', S', rv⟩ := Br.give
      exact q _ H M' S' rv
theorem je_lc2 (hc : X.calm = true) (hN : X.N.Nodup) (hset : fSeq iter = false) (hset1 : fSeq iter1 = false) (hi : JI X ca m tg iter) (ok : BlkOk X.N X.env.scope scope own) (hvs : ∀ i ∈ t.ws, i ∈ own.map (·.2)) (hvs1 : ∀ i ∈ t1.ws, i ∈ own.map (·.2))
    (hg : inBlk X scope fun Y => JG Y t tg) (ht : inBlk X scope fun Y => ts.J Y ca ifs) (hi1 : inBlk X scope fun Y => JI Y ca m1 tg1 iter1) (hg1 : inBlk X scope fun Y => JG Y t1 tg1) (ht1 : inBlk X scope fun Y => ts1.J Y ca ifs1) (he : inBlk X scope fun Y => JE Y ca te elt) :
    JE X ca (lcM m t.b ts.m (own.map (·.2)) (lcIn m1 t1.b ts1.m t1.ws (eltM te))) (.ListComp elt [⟨tg, iter, ifs, 0⟩, ⟨tg1, iter1, ifs1, 0⟩] scope pos) := fun W tk => by
  exact PE.imp (pe_lc2 (g := t.g X.K) (g1 := t1.g X.K) (tt := Rd X.K ca ts.m relB noW) (tt1 := Rd X.K ca ts1.m relB noW) (wi1 := Rd X.K ca m1 (relI X.K ca) noW) (te := Rd X.K ca te (relV X.K ca) noW) hc hN (hi W tk) ok hvs1 (fun s H C cl fp => hg s H C cl fp) (fun s H C cl fp => pts_of (ht s H C cl fp))
    (fun s H C cl fp => hi1 s H C cl fp noW noW_takes) (fun s H C cl fp => hg1 s H C cl fp) (fun s H C cl fp => pts_of (ht1 s H C cl fp)) (fun s H C cl fp => he s H C cl fp noW noW_takes) (noFold hset) (fun env x => noFold hset1 x)) fun σ H Q h => lc2_sem hvs hvs1 h
/-- name = [..] -/
theorem js_setLc {i : Nat} {y : Str} {py spos : Pos} (hc : X.calm = true) (hN : X.N.Nodup) (hy : X.N[i]? = some y) (hyl : X.env.scope.names.lookup y = some .local) (hsw : swapsWith (.ListComp elt [⟨tg, iter, ifs, 0⟩] scope pos) (some (.Name y py)) spos.line X.env = pure true)
    (hset : fSeq iter = false) (hi : JI X ca m tg iter) (ok : BlkOk X.N X.env.scope scope own) (hvs : ∀ i ∈ t.ws, i ∈ own.map (·.2))
    (hg : inBlk X scope fun Y => JG Y t tg) (ht : inBlk X scope fun Y => ts.J Y ca ifs) (he : inBlk X scope fun Y => JE Y ca te elt) : JS X ca (asgM i (lcM m t.b ts.m (own.map (·.2)) (eltM te))) (.Assign [.Name y py] (.ListComp elt [⟨tg, iter, ifs, 0⟩] scope pos) spos) := fun W tk =>
  PS.imp (ps_setLc (g := t.g X.K) (tt := Rd X.K ca ts.m relB noW) (te := Rd X.K ca te (relV X.K ca) noW) hc hN hy hyl hsw (hi W tk) ok (fun s H C cl fp => hg s H C cl fp) (fun s H C cl fp => pts_of (ht s H C cl fp)) (fun s H C cl fp => he s H C cl fp noW noW_takes) (noFold hset)) fun D σ H ⟨c, M, e, S, q⟩ =>
    lc_sem t.ok hvs (SRdAt.thenS q S fun r v H1 M1 e1 S1 _ rr q1 => asg_at S1 (relV.back S rr fun _ h => h) q1)
theorem js_setLc2 {i : Nat} {y : Str} {py spos : Pos} (hc : X.calm = true) (hN : X.N.Nodup) (hy : X.N[i]? = some y) (hyl : X.env.scope.names.lookup y = some .local) (hsw : swapsWith (.ListComp elt [⟨tg, iter, ifs, 0⟩, ⟨tg1, iter1, ifs1, 0⟩] scope pos) (some (.Name y py)) spos.line X.env = pure true)
    (hset : fSeq iter = false) (hset1 : fSeq iter1 = false) (hi : JI X ca m tg iter) (ok : BlkOk X.N X.env.scope scope own) (hvs : ∀ i ∈ t.ws, i ∈ own.map (·.2)) (hvs1 : ∀ i ∈ t1.ws, i ∈ own.map (·.2))
    (hg : inBlk X scope fun Y => JG Y t tg) (ht : inBlk X scope fun Y => ts.J Y ca ifs) (hi1 : inBlk X scope fun Y => JI Y ca m1 tg1 iter1) (hg1 : inBlk X scope fun Y => JG Y t1 tg1) (ht1 : inBlk X scope fun Y => ts1.J Y ca ifs1) (he : inBlk X scope fun Y => JE Y ca te elt) :
    JS X ca (asgM i (lcM m t.b ts.m (own.map (·.2)) (lcIn m1 t1.b ts1.m t1.ws (eltM te)))) (.Assign [.Name y py] (.ListComp elt [⟨tg, iter, ifs, 0⟩, ⟨tg1, iter1, ifs1, 0⟩] scope pos) spos) := fun W tk =>
  PS.imp (ps_setLc2 (g := t.g X.K) (g1 := t1.g X.K) (tt := Rd X.K ca ts.m relB noW) (tt1 := Rd X.K ca ts1.m relB noW) (wi1 := Rd X.K ca m1 (relI X.K ca) noW) (te := Rd X.K ca te (relV X.K ca) noW) hc hN hy hyl hsw (hi W tk) ok hvs1 (fun s H C cl fp => hg s H C cl fp) (fun s H C cl fp => pts_of (ht s H C cl fp))
    (fun s H C cl fp => hi1 s H C cl fp noW noW_takes) (fun s H C cl fp => hg1 s H C cl fp) (fun s H C cl fp => pts_of (ht1 s H C cl fp)) (fun s H C cl fp => he s H C cl fp noW noW_takes) (noFold hset) (fun env x => noFold hset1 x)) fun D σ H ⟨c, M, e, S, q⟩ =>
    lc2_sem hvs hvs1 (SRdAt.thenS q S fun r v H1 M1 e1 S1 _ rr q1 => asg_at S1 (relV.back S rr fun _ h => h) q1)
end
end
end QB

namespace QB
open PySem L2
/-! ### what is known of the module's classes -/
inductive CK where
  | bt (t : String) | oc (c : Str)
  deriving DecidableEq
def CK.val (K : PySem.W.Frag) : CK → Value
  | .bt t => .type t
  | .oc c => .ref (He.ga K c)
def CK.v (K : PySem.W.Frag) : CK → V
  | .bt t => .ty t
  | .oc c => .ref (He.ga K c)
inductive Fq where
  /-- isinstance's answer: a value's class, the class that is asked -/
  | kit (a b : CK) (r : Bool)
  /-- .. of an exception -/
  | xkit (a : Str) (b : CK) (r : Bool)
  /-- except's answer -/
  | exm (a b : Str) (r : Bool)
  /-- an own class; a name that it has not; a field of an exception -/
  | ins (c : Str)
  | noat (c f : Str)
  | xfl (c f : Str)
  /-- exceptions: without an own __init__ (of ValueError's kind), with one -/
  | xc0 (c : Str)
  | xc1 (c f : Str)
  /-- a class with operators; none of its operators yields to another class's; a class that is called -/
  | dun (c : Str)
  | nf (c : Str) (t : CK)
  | mk (c : Str)
def eqB {α : Type} [DecidableEq α] (a b : α) : Bool := decide (a = b)
/-- __class__ is as usual -/
def clsB (K : PySem.W.Frag) (C : Addr) : Bool := eqB (PySem.W.findIn K (.ref C) "__class__") (some (some (.builtin "object.__class__"))) && (eqB (PySem.W.specialIn K (.builtin "object.__class__") "__get__") (some (some (.builtin "getset_descriptor.__get__"))) &&
  (eqB (PySem.W.takesIn K (.builtin "object.__class__")) (some true) && eqB (PySem.W.mroIn K C (.type "object")) (some true)))
def insB (K : PySem.W.Frag) (C : Addr) : Bool := PySem.W.plainGet K C Str.empty && (PySem.W.hasDictIn K C && (PySem.W.plainOver K C && (eqB (PySem.W.findIn K (.ref C) "__setattr__") (some (some (.builtin "object.__setattr__"))) && clsB K C)))
def excB (K : PySem.W.Frag) (C : Addr) : Bool := (PySem.W.clsIn K C).isSome && (eqB (PySem.W.findIn K (.ref C) "__getattribute__") (some (some (.builtin "BaseException.__getattribute__"))) && (eqB (PySem.W.findIn K (.ref C) "__getattr__") (some none) &&
  (eqB (PySem.W.subIn K (.ref C) (.type "BaseException")) (some true) && (PySem.W.hasDictIn K C && (eqB (PySem.W.typeIn K (.ref C)) (some (.type "type")) && clsB K C)))))
def dunB (K : PySem.W.Frag) (C : Addr) : Bool := insB K C && (((PySem.W.clsIn K C).any fun cd => decide (cd.mro = [.ref C, .type "object"])) && (eqB (PySem.W.findIn K (.ref C) "__ne__") (some (some (.builtin "object.__ne__"))) &&
  (eqB (PySem.W.findIn K (.ref C) "__format__") (some (some (.builtin "object.__format__"))) && ((["and", "or", "sub", "xor"].all fun nm => eqB (PySem.W.findIn K (.ref C) (dunderI nm)) (some none) && eqB (PySem.W.findIn K (.type "object") (dunderI nm)) (some none)) && PySem.W.noSeq K C))))
def Fq.ok (K : PySem.W.Frag) : Fq → Bool
  | .kit a b r => eqB (PySem.W.kitOne K (a.val K) (b.val K)) (some r) && (match a with
    | .oc c => insB K (He.ga K c)
    | .bt _ => true)
  | .xkit a b r => eqB (PySem.W.kitOne K (.ref (He.ga K a)) (b.val K)) (some r) && excB K (He.ga K a)
  | .exm a b r => eqB (PySem.W.exmOne K (.ref (He.ga K a)) (.ref (He.ga K b))) (some r)
  | .ins c => insB K (He.ga K c)
  | .noat c f => insB K (He.ga K c) && eqB (PySem.W.findIn K (.ref (He.ga K c)) f) (some none)
  | .xfl c f => excB K (He.ga K c) && eqB (PySem.W.findIn K (.ref (He.ga K c)) f) (some none)
  | .xc0 c => PySem.W.excIn K (He.ga K c) He.veBase "ValueError.__new__" && (PySem.W.keepIn K (.ref (He.ga K c)) && excB K (He.ga K c))
  | .xc1 _ _ => false
  | .dun c => dunB K (He.ga K c)
  | .nf c t => insB K (He.ga K c) && (PySem.W.notFirst K (He.ga K c) (t.val K) && (match t with
    | .oc c' => insB K (He.ga K c')
    | .bt _ => true))
  | .mk c => PySem.W.makesIn K (He.ga K c) && PySem.W.keepIn K (.ref (He.ga K c))
section
variable {K : PySem.W.Frag} {C : Addr}
theorem eqB_ok {α : Type} [DecidableEq α] {a b : α} (h : eqB a b = true) : a = b := of_decide_eq_true h
theorem and2 {a b : Bool} (h : (a && b) = true) : a = true ∧ b = true := Bool.and_eq_true_iff.mp h
structure ClsC (K : PySem.W.Frag) (C : Addr) : Prop where
  ha : PySem.W.findIn K (.ref C) "__class__" = some (some (.builtin "object.__class__"))
  hn : PySem.W.specialIn K (.builtin "object.__class__") "__get__" = some (some (.builtin "getset_descriptor.__get__"))
  htk : PySem.W.takesIn K (.builtin "object.__class__") = some true
  hm : PySem.W.mroIn K C (.type "object") = some true
theorem clsB_ok (h : clsB K C = true) : ClsC K C := by
  obtain ⟨h1, h⟩ := and2 h
  obtain ⟨h2, h⟩ := and2 h
  obtain ⟨h3, h4⟩ := and2 h
  exact ⟨eqB_ok h1, eqB_ok h2, eqB_ok h3, eqB_ok h4⟩
theorem insB_ok (h : insB K C = true) : Cls K C ∧ ClsC K C := by
  obtain ⟨h1, h⟩ := and2 h
  obtain ⟨h2, h⟩ := and2 h
  obtain ⟨h3, h⟩ := and2 h
  obtain ⟨h4, h5⟩ := and2 h
  exact ⟨⟨h1, h2, h3, eqB_ok h4⟩, clsB_ok h5⟩
structure DunC (K : PySem.W.Frag) (C : Addr) : Prop where
  cl : Cls K C
  cc : ClsC K C
  mro : ∃ cd, PySem.W.clsIn K C = some cd ∧ cd.mro = [.ref C, .type "object"]
  ne : PySem.W.findIn K (.ref C) "__ne__" = some (some (.builtin "object.__ne__"))
  fm : PySem.W.findIn K (.ref C) "__format__" = some (some (.builtin "object.__format__"))
  ip : ∀ nm ∈ ["and", "or", "sub", "xor"], PySem.W.findIn K (.ref C) (dunderI nm) = some none ∧ PySem.W.findIn K (.type "object") (dunderI nm) = some none
  sq : PySem.W.noSeq K C = true
theorem dunB_ok (h : dunB K C = true) : DunC K C := by
  obtain ⟨h1, h⟩ := and2 h
  obtain ⟨h2, h⟩ := and2 h
  obtain ⟨h3, h⟩ := and2 h
  obtain ⟨h4, h⟩ := and2 h
  obtain ⟨h5, h6⟩ := and2 h
  refine ⟨(insB_ok h1).1, (insB_ok h1).2, ?_, eqB_ok h3, eqB_ok h4, fun nm hn => ?_, h6⟩
  · cases e : PySem.W.clsIn K C with
    | none => rw [e] at h2; cases h2
    | some cd => rw [e] at h2; exact ⟨cd, rfl, of_decide_eq_true h2⟩
  · obtain ⟨k1, k2⟩ := and2 (List.all_eq_true.mp h5 nm hn)
    exact ⟨eqB_ok k1, eqB_ok k2⟩
theorem DunC.sf (d : DunC K C) : PySem.W.selfFirst K C = true := by
  obtain ⟨cd, h1, h2⟩ := d.mro
  unfold PySem.W.selfFirst
  rw [h1]
  show (cd.mro.head? == some (.ref C)) = true
  rw [h2]
  exact beq_self_eq_true _
structure ExC (K : PySem.W.Frag) (C : Addr) : Prop where
  cl : (PySem.W.clsIn K C).isSome = true
  ga : PySem.W.findIn K (.ref C) "__getattribute__" = some (some (.builtin "BaseException.__getattribute__"))
  gg : PySem.W.findIn K (.ref C) "__getattr__" = some none
  sb : PySem.W.subIn K (.ref C) (.type "BaseException") = some true
  hd : PySem.W.hasDictIn K C = true
  ty : PySem.W.typeIn K (.ref C) = some (.type "type")
  cc : ClsC K C
theorem excB_ok (h : excB K C = true) : ExC K C := by
  obtain ⟨h1, h⟩ := and2 h
  obtain ⟨h2, h⟩ := and2 h
  obtain ⟨h3, h⟩ := and2 h
  obtain ⟨h4, h⟩ := and2 h
  obtain ⟨h5, h⟩ := and2 h
  obtain ⟨h6, h7⟩ := and2 h
  exact ⟨h1, eqB_ok h2, eqB_ok h3, eqB_ok h4, h5, eqB_ok h6, clsB_ok h7⟩
end
/-- the facts hold -/
structure FqOk (K : PySem.W.Frag) (ca : CA) (fq : List Fq) : Prop where
  ok : ∀ f ∈ fq, f.ok K = true
  at_ : ∀ c, ca c = He.ga K c
/-! ### isinstance -/
def ckN : PV → Option CK
  | .non => some (.bt "NoneType")
  | .bl _ => some (.bt "bool")
  | .int _ => some (.bt "int")
  | .str _ => some (.bt "str")
  | .tup _ => some (.bt "tuple")
  | .lst _ => some (.bt "list")
  | .rdl _ => some (.bt "list")
  | .dct _ _ => some (.bt "dict")
  | .ins c _ _ => some (.oc c)
  | .cls _ => none
section
variable {X : Cx} {ca : CA} {K : PySem.W.Frag} {c : Fx} {M M' M1 : Addr → Prop} {σ σ' σ1 : St} {H H' H1 : Hp} {e e' e1 : En} {W : WX} {fq : List Fq}
theorem SqT.ty {a : Addr} {vs : List V} (h : SqT K H a vs) : TyX K H (.ref a) (.type "tuple") := by
  rcases h with (h | ⟨o, h⟩) | ⟨o, its, n, h1, h2, _⟩
  · exact .base (.tup h)
  · exact .fTuple h
  · exact .kTuple h1 h2
theorem SqL.ty {a : Addr} {vs : List V} (h : SqL K H a vs) : TyX K H (.ref a) (.type "list") := by
  rcases h with (h | ⟨o, h⟩) | ⟨o, its, n, h1, h2, _⟩
  · exact .base (.lst h)
  · exact .base (.frz h)
  · exact .kList h1 h2
/-- the class of own objects is known -/
def okC (K : PySem.W.Frag) : CK → Prop
  | .bt _ => True
  | .oc c => insB K (He.ga K c) = true
theorem RepT.ty {p : PV} {v : V} {t : CK} (hat : ∀ c, ca c = He.ga K c) (h : RepT K ca (hid H M) H p v) (e : ckN p = some t) (ok : okC K t) : TyX K H v (t.val K) := by
  cases p with
  | non => cases e; cases h; exact .base .non
  | bl b => cases e; cases h; exact .base (.bl b)
  | int i => cases e; cases h; exact .base (.int i)
  | str x => cases e; cases h; exact .base (.str x)
  | tup xs => cases e; obtain ⟨a, vs, rfl, q, _⟩ := h; exact SqT.ty (Same.sqT hid_same q)
  | lst xs => cases e; obtain ⟨a, vs, rfl, q, _⟩ := h; exact .base (.lst q)
  | rdl xs => cases e; obtain ⟨a, vs, rfl, q, _⟩ := h; exact SqL.ty (Same.seq hid_same q)
  | dct ks xs => cases e; obtain ⟨a, kvs, rfl, q, _⟩ := h; exact .base (.dK q)
  | ins c ks xs =>
    cases e
    obtain ⟨a, dx, fs, rfl, q, _⟩ := h
    obtain ⟨k1, k2⟩ := insB_ok ok
    rw [hat] at q
    exact .base (.ins q k1 k2.ha k2.hn k2.htk k2.hm)
  | cls c => cases e
/-- the answer, one type or several -/
def kitF (a b : CK) : Fq → Option Bool
  | .kit a' b' r => if a' = a ∧ b' = b then some r else none
  | _ => none
def kitT (fq : List Fq) (a b : CK) : Option Bool := match a, b with
  | .bt a, .bt b => kitB a b
  | a, b => fq.findSome? (kitF a b)
theorem kitF_inv {a b : CK} {f : Fq} {r : Bool} (h : kitF a b f = some r) : f = .kit a b r := by
  cases f with
  | kit a' b' r' =>
    unfold kitF at h
    dsimp only at h
    split at h
    · rename_i z
      cases h
      rw [z.1, z.2]
    · cases h
  | _ => cases h
theorem kitT_ok (F : FqOk K ca fq) {a b : CK} {r : Bool} (h : kitT fq a b = some r) : PySem.W.kitOne K (a.val K) (b.val K) = some r ∧ okC K a := by
  have tab : ∀ {a b : CK}, fq.findSome? (kitF a b) = some r → PySem.W.kitOne K (a.val K) (b.val K) = some r ∧ okC K a := fun {a b} h => by
    obtain ⟨f, hf, hr⟩ := List.exists_of_findSome?_eq_some h
    have e := kitF_inv hr
    subst e
    obtain ⟨h1, h2⟩ := and2 (F.ok _ hf)
    refine ⟨eqB_ok h1, ?_⟩
    cases a with
    | bt t => trivial
    | oc c => exact h2
  cases a with
  | bt a =>
    cases b with
    | bt b => exact ⟨kit_ty h, trivial⟩
    | oc b => exact tab h
  | oc a => exact tab h
def isiB (fq : List Fq) (a : CK) : List CK → Option Bool
  | [] => some false
  | b :: bs => match kitT fq a b with
    | some true => some true
    | some false => isiB fq a bs
    | none => none
def isiP (fq : List Fq) (ts : List CK) (p : PV) : Option Bool := (ckN p).bind fun a => isiB fq a ts
theorem isiB_one {a b : CK} {r : Bool} (h : isiB fq a [b] = some r) : kitT fq a b = some r := by
  unfold isiB at h
  cases z : kitT fq a b with
  | none => simp only [z] at h; cases h
  | some q =>
    cases q with
    | true => simp only [z] at h; exact h
    | false => simp only [z] at h; unfold isiB at h; exact h
theorem isiB_any (F : FqOk K ca fq) {a : CK} : ∀ {bs : List CK} {r : Bool}, isiB fq a bs = some r → PySem.W.kitAny K (a.val K) (bs.map (CK.val K)) = some r
  | [], r, h => by cases h; exact kitAny_nil
  | b :: bs, r, h => by
    unfold isiB at h
    cases z : kitT fq a b with
    | none => simp only [z] at h; cases h
    | some q =>
      cases q with
      | true => simp only [z] at h; cases h; exact kitAny_cons (kitT_ok F z).1 (fun w => by cases w) (fun _ => rfl)
      | false => simp only [z] at h; exact kitAny_cons (kitT_ok F z).1 (fun _ => isiB_any F h) (fun w => by cases w)
theorem isiB_ok (F : FqOk K ca fq) {a b : CK} {bs : List CK} {r : Bool} (h : isiB fq a (b :: bs) = some r) : okC K a := by
  unfold isiB at h
  cases z : kitT fq a b with
  | none => simp only [z] at h; cases h
  | some q => exact (kitT_ok F z).2
def isiM (fq : List Fq) (m : EM Opd) (ts : List CK) : EM RV := one m fun p => (EM.opt (isiP fq ts p)).bind retB
theorem ck_clsV (t : CK) : ClsV (t.v K) (t.val K) := by
  cases t with
  | bt t => exact .ty t
  | oc c => exact .own _
/-- a class as the text names it -/
def TyName (X : Cx) (e : Expr) (t : CK) : Prop := ∃ y p, e = .Name y p ∧ Gl X y ∧ (y == ("__debug__" : Str)) = false ∧ match t with
  | .bt t => X.mg y = none ∧ bootBuiltins y = some (.type t) ∧ y ≠ "__name__"
  | .oc c => X.mg y = some (.ref (He.ga X.K c))
theorem pe_ty {e : Expr} {t : CK} (h : TyName X e t) : PE X e (tC (t.v X.K)) := by
  obtain ⟨y, p, rfl, h1, h2, h3⟩ := h
  cases t with
  | bt t => exact pe_bltn h1 h3.1 h3.2.1 rfl h3.2.2 h2
  | oc c => exact pe_glob h1 h3 (v := .ref _) rfl h2
theorem TyName.star {e : Expr} {t : CK} (h : TyName X e t) : isStar e = false := by
  obtain ⟨y, p, rfl, _⟩ := h
  rfl
theorem je_isi {a ty : Expr} {t : CK} {m : EM Opd} {p pos : Pos} (F : FqOk X.K ca fq) (hgi : Gl X "isinstance") (hmi : X.mg "isinstance" = none) (ht : TyName X ty t)
    (hs : isStar a = false) (h : JO X ca m a) : JE X ca (isiM fq m [t]) (.Call (.Name "isinstance" p) [a, ty] [] pos) := fun W tk => by
  refine PE.imp (pe_callB call_isi hgi hmi (by decide +kernel) (pa_cons (h W tk) (pa_cons (pe_ty ht) pa_nil (star_cons ht.star)) (star_cons hs)) (by decide) (by decide) (star_cons hs) (noStars_any (es := [ty]) (by unfold noStars; simp [ht.star]))) fun σ H Q ⟨c, M, e, S, q⟩ => RdAt.bind q S fun o v H1 M1 e1 S1 _ _ r q1 => ?_
  obtain ⟨x, _, rx, q2⟩ := q1.lookM S1 r
  obtain ⟨b, hb, q3⟩ := RdAt.optB q2
  unfold isiP at hb
  cases z : ckN x with
  | none => rw [z] at hb; cases hb
  | some t0 =>
    rw [z] at hb
    exact ⟨v, t.v X.K, t0.val X.K, t.val X.K, b, rfl, ck_clsV t, rx.ty F.at_ z (isiB_ok F hb), (kitT_ok F (isiB_one hb)).1, q3.ret S1 ⟨rfl, trivial⟩⟩
/-- names of several types -/
inductive TyNames (X : Cx) : List Expr → List CK → Prop
  | nil : TyNames X [] []
  | cons {e : Expr} {es : List Expr} {t : CK} {ts : List CK} (h : TyName X e t) (r : TyNames X es ts) : TyNames X (e :: es) (t :: ts)
def tTys (K : PySem.W.Frag) : List CK → TA
  | [] => tNil
  | t :: ts => tCons (tC (t.v K)) (tTys K ts)
theorem pa_tys : ∀ {es : List Expr} {ts : List CK}, TyNames X es ts → PA X es (tTys X.K ts)
  | _, _, .nil => pa_nil
  | _, _, .cons h r => pa_cons (pe_ty h) (pa_tys r) (star_cons h.star)
theorem tTys_run : ∀ {ts : List CK} {σ : St} {H : Hp} {Q : List V → Hp → Prop}, Q (ts.map (CK.v K)) H → tTys K ts σ H Q
  | [], σ, H, Q, h => h
  | t :: ts, σ, H, Q, h => tTys_run (ts := ts) (Q := fun vs H1 => Q (t.v K :: vs) H1) h
theorem clsAll : ∀ ts : List CK, Paired ClsV (ts.map (CK.v K)) (ts.map (CK.val K))
  | [] => .nil
  | t :: ts => .cons (ck_clsV t) (clsAll ts)
theorem je_isiT {a : Expr} {es : List Expr} {ts : List CK} {m : EM Opd} {k : Nat} {p pt pos : Pos} (F : FqOk X.K ca fq) (hgi : Gl X "isinstance") (hmi : X.mg "isinstance" = none) (ht : TyNames X es ts) (hz : ts.length ≤ sizeLine) (hne : ts ≠ [])
    (hs : isStar a = false) (h : JO X ca m a) : JE X ca (isiM fq m ts) (.Call (.Name "isinstance" p) [a, .Tuple es k pt] [] pos) := fun W tk => by
  refine PE.imp (pe_callB call_isiT hgi hmi (by decide +kernel) (pa_cons (h W tk) (pa_cons (pe_tup (pa_tys ht)) pa_nil rfl) (star_cons hs)) (by decide) (by decide) (star_cons hs) rfl) fun σ H Q ⟨c, M, e, S, q⟩ => RdAt.bind q S fun o v H1 M1 e1 S1 _ _ r q1 => ?_
  refine tTys_run ⟨by rw [List.length_map]; exact hz, fun tp htp => ?_⟩
  have S2 := S1.alloc (o := .tup (ts.map (CK.v X.K))) htp
  obtain ⟨x, _, rx, q2⟩ := q1.lookM S2 (c' := Fx.at M σ H e c.par) (e' := e1) (relO.mono r (same_upd htp))
  obtain ⟨b, hb, q3⟩ := RdAt.optB q2
  unfold isiP at hb
  cases z : ckN x with
  | none => rw [z] at hb; cases hb
  | some t0 =>
    rw [z] at hb
    have ok : okC X.K t0 := by
      cases ts with
      | nil => exact absurd rfl hne
      | cons t ts => exact isiB_ok F hb
    exact ⟨v, tp, ts.map (CK.v X.K), t0.val X.K, ts.map (CK.val X.K), b, rfl, upd_same, clsAll ts, rx.ty F.at_ z ok, isiB_any F hb, q3.ret S2 ⟨rfl, trivial⟩⟩
/-! ### repr -/
theorem repr_call {prog : Program} {w : World} {A : Around} {E : Value → Shared → Prop} {s : Shared} {v : Value} {d : PyData} {as : List Addr} {Q : Value → Shared → Prop} (r : Reads s.heap v d as) (hs : d.showable = true) (hn : d.hasDict = false) (hz : d.shown.length ≤ sizeLine)
    (hg : A.guards = some []) (hu : A.units + 1 + d.depth < cLine) (hQ : ∀ h' u tk, (∀ b o, s.heap.get? b = some o → h'.get? b = some o) → Q (.str d.shown u) { s with heap := h', toks := tk }) : wpAny (model prog w) A (call (.builtin "repr") [v]) Q E s := by
  cases r with
  | none => exact PySem.P.repr_of_none (hQ s.heap _ _ fun _ _ e => e)
  | bool b => exact PySem.P.repr_of_bool (hQ s.heap _ _ fun _ _ e => e)
  | int i t => exact PySem.P.repr_of_int (by simpa [PyData.showable] using hs) (hQ s.heap _ _ fun _ _ e => e)
  | str x t => exact PySem.P.repr_of_str (hQ s.heap _ _ fun _ _ e => e) (by simpa only [PyData.shown] using hz)
  | @list a o vs n xs as h1 h2 h3 h4 =>
    have hz' : (listText (PyData.shownAll xs)).length ≤ sizeLine := by simpa only [PyData.shown] using hz
    have hn' : PyData.hasDictAll xs = false := by simpa [PyData.hasDict] using hn
    obtain ⟨bs, hb, hk⟩ := ReprAllK.of_readsAll (prog := prog) (w := w) h4 (by simpa [PyData.showable] using hs) (fun z => by rw [hn'] at z; cases z) (fun t ht => Nat.le_trans (listText_mem_le ht) hz')
    have hna : a ∉ bs := not_mem_of_deeper (Reads.list h1 h2 h3 h4) (by simp only [PyData.depth]; omega) hb
    simp only [PyData.depth] at hu
    simp only [PyData.shown] at hQ
    refine call_repr_slot (by omega) ⟨o, h1, h2⟩ F.slot_list_repr.toG ?_
    obtain ⟨l⟩ := vs
    cases l with
    | nil =>
      have h4' : ReadsAll s.heap [] xs _ := h4
      cases h4'
      simp only [PyData.shownAll, listText_nil] at hQ
      exact call_list_repr_empty ⟨o, h1, h2⟩ h1 h3 ⟨_, _, rfl, hQ s.heap _ _ fun _ _ e => e⟩
    | cons x l =>
      exact call_list_reprK h1 h2 h3 hna (by simpa using hk.length_eq) (fun i y e => hk.item i y (by simpa using e)) hg (fun b _ => Clear.nil b) (by show A.units + 1 + _ < _; omega) (fun _ _ e => e) (fun h' u tk hk' => ⟨_, _, rfl, hQ h' u tk hk'⟩) hz'
  | @tuple a o vs n xs as h1 h2 h3 h4 =>
    have hz' : (tupleText (PyData.shownAll xs)).length ≤ sizeLine := by simpa only [PyData.shown] using hz
    have hn' : PyData.hasDictAll xs = false := by simpa [PyData.hasDict] using hn
    obtain ⟨bs, hb, hk⟩ := ReprAllK.of_readsAll (prog := prog) (w := w) h4 (by simpa [PyData.showable] using hs) (fun z => by rw [hn'] at z; cases z) (fun t ht => Nat.le_trans (tupleText_mem_le ht) hz')
    have hna : a ∉ bs := not_mem_of_deeper (Reads.tuple h1 h2 h3 h4) (by simp only [PyData.depth]; omega) hb
    simp only [PyData.depth] at hu
    simp only [PyData.shown] at hQ
    exact call_repr_slot (by omega) ⟨o, h1, h2⟩ F.slot_tuple_repr (call_tuple_reprK h1 h2 h3 hna hk hg (fun b _ => Clear.nil b) (by show A.units + 1 + _ < _; omega) (fun _ _ e => e) (fun h' u tk hk' => ⟨_, _, rfl, hQ h' u tk hk'⟩) hz')
  | dict h1 h2 h3 h4 h5 => simp [PyData.hasDict] at hn
def repOk (d : PyData) : Bool := d.showable && !d.hasDict && decide (d.depth ≤ 64) && szOk d.shown.length
def bRepr : List PV → EM RV
  | [p] => match p.data with
    | some d => if repOk d then EM.ret (.val (.str d.shown)) else EM.bad
    | none => EM.bad
  | _ => EM.bad
theorem cs_repr (hg : X.A.guards = some []) (hu : X.A.units + 66 < cLine) (W : WX) : CallR X (.builtin "repr") (rSemN X.K ca W bRepr) := by
  intro pins s σ0 H vs us Q I r ⟨c, M, σ, e, ps, S, rp, h⟩
  match ps, h with
  | [], h => exact False.elim h
  | p :: _ :: _, h => exact False.elim h
  | [p], h =>
    obtain ⟨v, rfl, rv⟩ := pair1 rp
    obtain ⟨u, rfl, ru⟩ := vals1 r
    unfold bRepr at h
    dsimp only at h
    cases z : p.data with
    | none => simp only [z] at h; exact False.elim h
    | some d =>
      simp only [z] at h
      obtain ⟨hz, h⟩ := RdAt.ite h
      unfold repOk at hz
      simp only [Bool.and_eq_true, Bool.not_eq_true', decide_eq_true_eq] at hz
      obtain ⟨⟨⟨z1, z2⟩, z3⟩, z4⟩ := hz
      obtain ⟨as, rd⟩ := Dp.reads I d v u (Rep.dp (rv.rep hid_same) z) ru
      exact repr_call rd z1 z2 (of_decide_eq_true z4) hg (by omega) fun h' t tk hk => ⟨.str d.shown, H, I.kept (t' := tk) hk, ⟨t, rfl⟩, h.ret S ⟨rfl, trivial⟩⟩
/-! ### str(x), int(text), bool(x) -/
def numOk (i : Int) : Bool := decide (i.natAbs.log2 < 1920)
def bStr : List PV → EM RV
  | [.int i] => if numOk i then EM.ret (.val (.str (toString i))) else EM.bad
  | [.str x] => EM.ret (.val (.str x))
  | _ => EM.bad
theorem cs_str (W : WX) : CallR X (.type "str") (rSemN X.K ca W bStr) := by
  intro pins s σ0 H vs us Q I r ⟨c, M, σ, e, ps, S, rp, h⟩
  match ps, h with
  | [], h => exact False.elim h
  | p :: _ :: _, h => exact False.elim (by cases p <;> exact h)
  | [p], h =>
    obtain ⟨v, rfl, rv⟩ := pair1 rp
    cases p <;> first | exact False.elim h | skip
    case int i =>
      cases rv
      obtain ⟨hz, h⟩ := RdAt.ite h
      exact call_str_int pins s σ0 H _ us Q I r ⟨i, rfl, of_decide_eq_true hz, h.ret S ⟨rfl, trivial⟩⟩
    case str x =>
      cases rv
      exact SkE.call_str_str pins s σ0 H _ us Q I r ⟨x, rfl, h.ret S ⟨rfl, trivial⟩⟩
def bInt' : List PV → EM RV
  | [.str x] => if decide (x.length ≤ 640) then (EM.opt (PySem.intText? x)).bind fun n => EM.ret (.val (.int n)) else EM.bad
  | ps => bInt ps
theorem cs_int' (W : WX) : CallR X (.type "int") (rSemN X.K ca W bInt') := by
  intro pins s σ0 H vs us Q I r ⟨c, M, σ, e, ps, S, rp, h⟩
  match ps, h with
  | [.str x], h =>
    obtain ⟨v, rfl, rv⟩ := pair1 rp
    cases rv
    obtain ⟨hz, h⟩ := RdAt.ite (show RdAt X.K ca c (if decide (x.length ≤ 640) = true then (EM.opt (PySem.intText? x)).bind fun n => EM.ret (.val (.int n)) else EM.bad) (relV X.K ca) W e σ Q from h)
    obtain ⟨n, hn, h⟩ := RdAt.optB h
    exact call_int_str pins s σ0 H _ us Q I r ⟨x, n, rfl, hn, of_decide_eq_true hz, h.ret S ⟨rfl, trivial⟩⟩
  | [], h => exact False.elim h
  | p :: _ :: _, h => exact False.elim (by cases p <;> exact h)
  | [.non], h => exact False.elim h
  | [.bl b], h => exact cs_int W pins s σ0 H vs us Q I r ⟨c, M, σ, e, [.bl b], S, rp, h⟩
  | [.int b], h => exact cs_int W pins s σ0 H vs us Q I r ⟨c, M, σ, e, [.int b], S, rp, h⟩
  | [.tup _], h => exact False.elim h
  | [.lst _], h => exact False.elim h
  | [.rdl _], h => exact False.elim h
  | [.ins _ _ _], h => exact False.elim h
  | [.dct _ _], h => exact False.elim h
/-! ### methods of texts -/
def strsP (l : List Str) : List PV := l.map PV.str
theorem strsReps {G : Hp} (l : List Str) : Reps K ca G (strsP l) (l.map V.str) := by
  induction l with
  | nil => rfl
  | cons n ns ih => exact ⟨_, _, rfl, rfl, ih⟩
/-- the receiver is a text; then the argument -/
def strM1 (mo : EM Opd) (m : EM Opd) (f : Str → PV → EM RV) : EM RV := mo.bind fun o => (lookM o).bind fun x => match x with
  | .str a => m.bind fun b => (lookM b).bind fun y => f a y
  | _ => EM.bad
def splitP (a : Str) : PV → EM RV
  | .str b => if !(b.length == 0) && decide (a.length + 2 ≤ sizeLine) then EM.ret (.own (.lst (strsP (Txt.split a b)))) else EM.bad
  | _ => EM.bad
theorem je_m1 {o a : Expr} {name : Str} {id : String} {mo m : EM Opd} {f : Str → PV → EM RV} {r : V → List V → Hp → VK → Prop} {apos pos : Pos} (slot : PySem.Slot "str" name id) (ty : typeOf (.builtin id) = pure (.type "method_descriptor")) (rule : MtR X id r)
    (hr : ∀ {W : WX} {c : Fx} {M : Addr → Prop} {σ : St} {H : Hp} {e : En} {a : Str} {y : PV} {v : V} {Q : VK}, Sim X.K ca c M σ H e → RepT X.K ca (hid H M) H y v → RdAt X.K ca c (f a y) (relV X.K ca) W e σ Q → r (.str a) [v] H Q)
    (hb : attributeBase o name X.env (eval o X.env) = eval o X.env) (hl : (apos.endLine == pos.line) = true) (hs : isStar a = false) (ho : JO X ca mo o) (h : JO X ca m a) : JE X ca (strM1 mo m f) (.Call (.Attribute o name apos) [a] [] pos) := fun W tk =>
  PE.imp (pe_m1 slot ty rule (ho W tk) (h W tk) (star_cons hs) hb hl) fun σ H Q ⟨c, M, e, S, q⟩ => RdAt.bind q S fun o v H1 M1 e1 S1 _ _ r1 q1 => by
    obtain ⟨x, _, rx, q2⟩ := q1.lookM S1 r1
    cases x <;> first | exact False.elim q2 | skip
    case str z =>
      cases rx
      refine ⟨⟨_, rfl⟩, RdAt.bind q2 S1 fun b w H2 M2 e2 S2 _ _ r2 q3 => ?_⟩
      obtain ⟨y, _, ry, q4⟩ := q3.lookM S2 r2
      exact hr S2 ry q4
theorem je_split {o a : Expr} {mo m : EM Opd} {apos pos : Pos} (hb : attributeBase o "split" X.env (eval o X.env) = eval o X.env) (hl : (apos.endLine == pos.line) = true) (hs : isStar a = false) (ho : JO X ca mo o) (h : JO X ca m a) :
    JE X ca (strM1 mo m splitP) (.Call (.Attribute o "split" apos) [a] [] pos) := by
  refine je_m1 F.slot_str_split F.type_str_split mt_split (fun {W c M σ H e a y v Q} S ry q => ?_) hb hl hs ho h
  cases y <;> first | exact False.elim q | skip
  case str b =>
    cases ry
    obtain ⟨hz, q⟩ := RdAt.ite q
    simp only [Bool.and_eq_true, Bool.not_eq_true', decide_eq_true_eq] at hz
    exact ⟨a, b, rfl, rfl, hz.1, hz.2, fun p hp => q.ret (S.alloc hp) (relV.newL S hp (strsReps _))⟩
def strsOf : List PV → Option (List Str)
  | [] => some []
  | .str i :: r => (strsOf r).map (i :: ·)
  | _ :: _ => none
theorem strsOf_reps {G : Hp} : ∀ {ps : List PV} {vs : List V} {ns : List Str}, Reps K ca G ps vs → strsOf ps = some ns → vs = ns.map V.str
  | [], _, _, h, e => by cases h; cases e; rfl
  | p :: r, _, ns, h, e => by
    obtain ⟨v, r', rfl, h1, h2⟩ := h
    cases p <;> first | (cases e; done) | skip
    case str i =>
      unfold strsOf at e
      cases z : strsOf r with
      | none => rw [z] at e; cases e
      | some ms =>
        rw [z] at e
        cases e
        cases h1
        rw [strsOf_reps h2 z]
        rfl
def joinP (a : Str) : PV → EM RV
  | .lst xs => (EM.opt (strsOf xs)).bind fun ys => if decide ((ys.map (·.length)).sum + ys.length * a.length ≤ 16777216) then EM.ret (.val (.str (Txt.join a ys))) else EM.bad
  | .tup xs => (EM.opt (strsOf xs)).bind fun ys => if decide ((ys.map (·.length)).sum + ys.length * a.length ≤ 16777216) then EM.ret (.val (.str (Txt.join a ys))) else EM.bad
  | _ => EM.bad
theorem je_join {o a : Expr} {mo m : EM Opd} {apos pos : Pos} (hb : attributeBase o "join" X.env (eval o X.env) = eval o X.env) (hl : (apos.endLine == pos.line) = true) (hs : isStar a = false) (ho : JO X ca mo o) (h : JO X ca m a) :
    JE X ca (strM1 mo m joinP) (.Call (.Attribute o "join" apos) [a] [] pos) := by
  refine je_m1 F.slot_str_join F.type_str_join mt_join (fun {W c M σ H e a y v Q} S ry q => ?_) hb hl hs ho h
  cases y <;> first | exact False.elim q | skip
  case lst xs =>
    obtain ⟨b, ws, rfl, hb, rb⟩ := ry
    obtain ⟨ys, hy, q⟩ := RdAt.optB q
    obtain ⟨hz, q⟩ := RdAt.ite q
    have := strsOf_reps rb hy
    subst this
    exact ⟨a, b, ys, rfl, rfl, .inl (SqL.of hb), of_decide_eq_true hz, q.ret S ⟨rfl, trivial⟩⟩
  case tup xs =>
    obtain ⟨b, ws, rfl, hb, rb⟩ := ry
    obtain ⟨ys, hy, q⟩ := RdAt.optB q
    obtain ⟨hz, q⟩ := RdAt.ite q
    have := strsOf_reps rb hy
    subst this
    exact ⟨a, b, ys, rfl, rfl, .inr (Same.sqT hid_same hb), of_decide_eq_true hz, q.ret S ⟨rfl, trivial⟩⟩
/-! ### f'..' -/
def fmtP : PV → EM RV
  | .str y => if szOk y.length then EM.ret (.val (.str y)) else EM.bad
  | .int i => if numOk i then EM.ret (.val (.str (toString i))) else EM.bad
  | _ => EM.bad
theorem je_fmt {a : Expr} {m : EM Opd} {pos : Pos} (h : JO X ca m a) : JE X ca (one m fmtP) (.FormattedValue a (-1) none pos) := fun W tk =>
  PE.imp (pe_fmt (h W tk)) fun σ H Q ⟨c, M, e, S, q⟩ => RdAt.bind q S fun o v H1 M1 e1 S1 _ _ r q1 => by
    obtain ⟨x, _, rx, q2⟩ := q1.lookM S1 r
    cases x <;> first | exact False.elim q2 | skip
    case int i =>
      cases rx
      obtain ⟨hz, q⟩ := RdAt.ite q2
      exact .inr ⟨_, rfl, of_decide_eq_true hz, q.ret S1 ⟨rfl, trivial⟩⟩
    case str y =>
      cases rx
      obtain ⟨hz, q⟩ := RdAt.ite q2
      exact .inl ⟨_, rfl, of_decide_eq_true hz, q.ret S1 ⟨rfl, trivial⟩⟩
/-- the parts one behind the other -/
def fjM : List (EM RV) → Str → EM RV
  | [], acc => EM.ret (.val (.str acc))
  | m :: ms, acc => m.bind fun r => match r.pv with
    | .str y => if szOk (acc ++ y).length then fjM ms (acc ++ y) else EM.bad
    | _ => EM.bad
inductive JJ (X : Cx) (ca : CA) : List (EM RV) → List Expr → Prop where
  | nil : JJ X ca [] []
  | cons {m : EM RV} {ms : List (EM RV)} {e : Expr} {es : List Expr} (h : JE X ca m e) (r : JJ X ca ms es) : JJ X ca (m :: ms) (e :: es)
theorem pj_of (W : WX) (tk : Takes X W) : ∀ {ms : List (EM RV)} {es : List Expr}, JJ X ca ms es → PJ X es (ms.map fun m => Rd X.K ca m (relV X.K ca) W)
  | _, _, .nil => .nil
  | _, _, .cons h r => .cons (h W tk) (pj_of W tk r)
theorem fj_run : ∀ {ms : List (EM RV)} {acc : Str} {c : Fx} {M : Addr → Prop} {σ : St} {H : Hp} {e : En} {Q : VK}, Sim K ca c M σ H e → RdAt K ca c (fjM ms acc) (relV K ca) W e σ Q → tJs (ms.map fun m => Rd K ca m (relV K ca) W) acc σ H fun out H1 => Q (.str out) H1
  | [], acc, c, M, σ, H, e, Q, S, q => q.ret S ⟨rfl, trivial⟩
  | m :: ms, acc, c, M, σ, H, e, Q, S, q => by
    refine RdAt.bind q S fun r v H1 M1 e1 S1 _ _ rr q1 => ?_
    obtain ⟨rv, _⟩ := rr
    cases z : r.pv <;> rw [z] at rv <;> simp only [z] at q1 <;> first | exact False.elim q1 | skip
    case str y =>
      cases rv
      obtain ⟨hz, q2⟩ := RdAt.ite q1
      exact ⟨y, rfl, of_decide_eq_true hz, fj_run S1 q2⟩
theorem je_fj {e1 e2 : Expr} {es : List Expr} {ms : List (EM RV)} {pos : Pos} (h : JJ X ca ms (e1 :: e2 :: es)) : JE X ca (fjM ms Str.empty) (.JoinedStr (e1 :: e2 :: es) pos) := fun W tk =>
  PE.imp (pe_joined (pj_of W tk h)) fun σ H Q ⟨c, M, e, S, q⟩ => fj_run S q
theorem je_fj1 {e1 : Expr} {m : EM RV} {pos : Pos} (h : JE X ca m e1) : JE X ca m (.JoinedStr [e1] pos) := fun W tk => pe_joined1 (h W tk)
def isSup : Expr → Bool
  | .Call f a k _ => match f, a, k with
    | .Name _ _, [], [] => true
    | _, _, _ => false
  | _ => false
theorem notSup {o : Expr} {attr : Str} {env : Env} (h : isSup o = false) : attributeBase o attr env (eval o env) = eval o env := by
  cases o with
  | Call f a k p =>
    cases f with
    | Name x q =>
      cases a with
      | nil =>
        cases k with
        | nil => cases h
        | cons _ _ => rfl
      | cons _ _ => rfl
    | _ => rfl
  | _ => rfl
/-! ### what is not told -/
theorem je_bad {e : Expr} : JE X ca EM.bad e := fun W tk => ⟨fun pins s σ H Q I h => by obtain ⟨c, M, e, S, q⟩ := h; exact q.elim⟩
theorem jt_bad {e : Expr} : JT X ca EM.bad e := fun W tk => ⟨fun pins s σ H Q I h => by obtain ⟨c, M, e, S, q⟩ := h; exact q.elim⟩
def badS : SM := fun _ => .bad
theorem js_bad {s : Stmt} : JS X ca badS s := fun W tk => ⟨fun pins s σ H Q I h => by obtain ⟨c, M, e, S, q⟩ := h; exact q.elim⟩
end
end QB

namespace QB
open PySem L2
/-! ### exceptions that are handled -/
/-- they stand there -/
def XPins (X : Cx) (ca : CA) : Prop := ∀ a cls d, ca.xp a = some (cls, d) → ∃ oe vs, (a, oe) ∈ X.pn ∧ Zc cls d oe ∧ oe.data = .fields vs
def XdAt (H : Hp) (d : Option Addr) : Prop := d = none ∨ ∃ dd fs, d = some dd ∧ H dd = some (.xd fs)
section
variable {X : Cx} {ca : CA} {K : PySem.W.Frag} {c : Fx} {M M' M1 : Addr → Prop} {σ σ' σ1 : St} {H H' H1 : Hp} {e e' e1 : En} {W : WX} {fq : List Fq}
theorem exn_inst {pins : List (Addr × Obj)} {s : Shared} {a C : Addr} {d : Option Addr} (I : Inv X pins σ H s) (XP : XPins X ca) (hx : ca.xp a = some (.ref C, d)) (hd : XdAt H d) : ∃ oe od, PySem.W.InstAt s.heap a oe C od := by
  obtain ⟨oe, vs, hp, hz, hf⟩ := XP a _ d hx
  obtain ⟨hget, _⟩ := I.pin (a, oe) (List.mem_append_left _ hp)
  have nc : PySem.W.notCls oe = true := by unfold PySem.W.notCls; rw [hf] <;> rfl
  rcases hd with rfl | ⟨dd, fs, rfl, hh⟩
  · exact ⟨oe, none, hget, hz.1, nc, by rw [hz.2]; trivial⟩
  · have hk : ObjOk X.prog X.w H s.heap dd (.xd fs) := I.hok dd _ hh
    obtain ⟨mA, hns, _⟩ := hk
    obtain ⟨od, ho, _⟩ := lookIn_ns hns
    exact ⟨oe, some od, hget, hz.1, nc, by rw [hz.2]; exact ho⟩
def rIsX (K : PySem.W.Frag) (ca : CA) : List V → Hp → VK → Prop := fun xs H Q => ∃ (a C : Addr) (d : Option Addr) (t : V) (u : Value) (b : Bool), xs = [.ref a, t] ∧ ca.xp a = some (.ref C, d) ∧ XdAt H d ∧ ExC K C ∧ ClsV t u ∧ PySem.W.kitOne K (.ref C) u = some b ∧ Q (.bl b) H
theorem call_isX (XP : XPins X ca) : CallR X (.builtin "isinstance") (rIsX X.K ca) := by
  intro pins s σ H xs us Q I r h
  obtain ⟨a, C, d, t, u, b, rfl, hx, hd, ex, k, e, q⟩ := h
  obtain ⟨u1, u2, rfl, r1, r2⟩ := vals2 r
  have e2 := k.eq r2
  subst e2
  cases (show u1 = Value.ref a from r1)
  obtain ⟨oe, od, J⟩ := exn_inst I XP hx hd
  exact PySem.W.kia_one (PySem.W.kitx_exc (ox := oe) (od := od) ex.cl ex.ga ex.gg ex.sb ex.cc.ha ex.cc.hn ex.cc.htk ex.cc.hm) I.kIn J e (fun z => nomatch z) fun tk => ⟨.bl b, H, I.tok tk, rfl, q⟩
def rIsXT (K : PySem.W.Frag) (ca : CA) : List V → Hp → VK → Prop := fun xs H Q => ∃ (a C tp : Addr) (d : Option Addr) (cs : List V) (us : List Value) (b : Bool), xs = [.ref a, .ref tp] ∧ ca.xp a = some (.ref C, d) ∧ XdAt H d ∧ ExC K C ∧ H tp = some (.tup cs) ∧ Paired ClsV cs us ∧ PySem.W.kitAny K (.ref C) us = some b ∧ Q (.bl b) H
theorem call_isXT (XP : XPins X ca) : CallR X (.builtin "isinstance") (rIsXT X.K ca) := by
  intro pins s σ H xs us Q I r h
  obtain ⟨a, C, tp, d, cs, ws, b, rfl, hx, hd, ex, hT, k, e, q⟩ := h
  obtain ⟨u1, u2, rfl, r1, r2⟩ := vals2 r
  cases (show u2 = Value.ref tp from r2)
  cases (show u1 = Value.ref a from r1)
  obtain ⟨oe, od, J⟩ := exn_inst I XP hx hd
  have hk : ObjOk X.prog X.w H s.heap tp (.tup cs) := I.hok tp _ hT
  obtain ⟨_, its, rv, o, h1, h2, n, h3⟩ := hk
  have e3 := ClsV.all k rv
  subst e3
  obtain ⟨oc, od', dt, sl⟩ := o
  simp only at h2 h3
  subst h2 h3
  exact PySem.W.kia_tup (PySem.W.kitx_exc (ox := oe) (od := od) ex.cl ex.ga ex.gg ex.sb ex.cc.ha ex.cc.hn ex.cc.htk ex.cc.hm) I.kIn J h1 e (fun z => nomatch z) fun tk => ⟨.bl b, H, I.tok tk, rfl, q⟩
/-- two ways, by what stands in the slots -/
theorem PE.or {ex : Expr} {t t' : TE} (h : PE X ex t) (h' : PE X ex t') : PE X ex (fun σ H Q => t σ H Q ∨ t' σ H Q) := ⟨fun pins s σ H Q I q => q.elim (fun q => h.run pins s σ H Q I q) fun q => h'.run pins s σ H Q I q⟩
def altM {α : Type} (b : En → Bool) (m n : EM α) : EM α := fun e => if b e then m e else n e
theorem je_alt {b : En → Bool} {m n : EM RV} {ex : Expr} (h : JE X ca m ex) (h' : JE X ca n ex) : JE X ca (altM b m n) ex := fun W tk =>
  PE.imp (PE.or (h W tk) (h' W tk)) fun σ H Q ⟨c, M, e, S, q⟩ => by
    unfold RdAt altM at q
    cases z : b e with
    | true => simp only [z, if_true] at q; exact .inl ⟨c, M, e, S, q⟩
    | false => simp only [z, Bool.false_eq_true, if_false] at q; exact .inr ⟨c, M, e, S, q⟩
def isExn (i : Nat) (e : En) : Bool := match e[i]? with
  | some (some (.exn _)) => true
  | _ => false
/-- what is made of the exception in a slot -/
def exnM {α : Type} (i : Nat) (f : PX → EM α) : EM α := fun e => match e[i]? with
  | some (some (.exn x)) => f x e
  | _ => .bad
theorem RdAt.exn {α β : Type} {i : Nat} {f : PX → EM α} {rel : RelT α β} {Q : β → Hp → Prop} (h : RdAt K ca c (exnM i f) rel W e σ Q) (S : Sim K ca c M σ H e) :
    ∃ x v, σ[i]? = some (some v) ∧ XSl K ca (hid H M) x v ∧ RdAt K ca c (f x) rel W e σ Q := by
  unfold RdAt exnM at h
  cases q : e[i]? with
  | none => simp only [q] at h
  | some z =>
    cases z with
    | none => simp only [q] at h
    | some s =>
      cases s with
      | exn x =>
        simp only [q] at h
        obtain ⟨v, e1, r⟩ := S.slot i _ q
        exact ⟨x, v, e1, r, h⟩
      | _ => simp only [q] at h
theorem XR.xd {G : Hp} {x : PX} {cls : Value} {d : Option Addr} (h : XR K ca G x cls d) (s : Same G H) : XdAt H d := by
  rcases h with ⟨_, ⟨_, _, h⟩ | ⟨dd, fs, h1, h2, _⟩⟩
  · exact .inl h
  · exact .inr ⟨dd, fs, h1, s _ _ h2⟩
def xkitF (a : Str) (b : CK) : Fq → Option Bool
  | .xkit a' b' r => if a' = a ∧ b' = b then some r else none
  | _ => none
def xkitT (fq : List Fq) (a : Str) (b : CK) : Option Bool := fq.findSome? (xkitF a b)
theorem xkitT_ok (F : FqOk K ca fq) {a : Str} {b : CK} {r : Bool} (h : xkitT fq a b = some r) : PySem.W.kitOne K (.ref (ca a)) (b.val K) = some r ∧ ExC K (ca a) := by
  obtain ⟨f, hf, hr⟩ := List.exists_of_findSome?_eq_some h
  cases f with
  | xkit a' b' r' =>
    unfold xkitF at hr
    dsimp only at hr
    split at hr
    · rename_i z
      cases hr
      obtain ⟨rfl, rfl⟩ := z
      obtain ⟨h1, h2⟩ := and2 (F.ok _ hf)
      rw [F.at_]
      exact ⟨eqB_ok h1, excB_ok h2⟩
    · cases hr
  | _ => cases hr
def xisB (fq : List Fq) (a : Str) : List CK → Option Bool
  | [] => some false
  | b :: bs => match xkitT fq a b with
    | some true => some true
    | some false => xisB fq a bs
    | none => none
theorem xisB_one {a : Str} {b : CK} {r : Bool} (h : xisB fq a [b] = some r) : xkitT fq a b = some r := by
  unfold xisB at h
  cases z : xkitT fq a b with
  | none => simp only [z] at h; cases h
  | some q =>
    cases q with
    | true => simp only [z] at h; exact h
    | false => simp only [z] at h; unfold xisB at h; exact h
theorem xisB_any (F : FqOk K ca fq) {a : Str} : ∀ {bs : List CK} {r : Bool}, xisB fq a bs = some r → PySem.W.kitAny K (.ref (ca a)) (bs.map (CK.val K)) = some r
  | [], r, h => by cases h; exact kitAny_nil
  | b :: bs, r, h => by
    unfold xisB at h
    cases z : xkitT fq a b with
    | none => simp only [z] at h; cases h
    | some q =>
      cases q with
      | true => simp only [z] at h; cases h; exact kitAny_cons (xkitT_ok F z).1 (fun w => by cases w) (fun _ => rfl)
      | false => simp only [z] at h; exact kitAny_cons (xkitT_ok F z).1 (fun _ => xisB_any F h) (fun w => by cases w)
theorem xisB_ok (F : FqOk K ca fq) {a : Str} {b : CK} {bs : List CK} {r : Bool} (h : xisB fq a (b :: bs) = some r) : ExC K (ca a) := by
  unfold xisB at h
  cases z : xkitT fq a b with
  | none => simp only [z] at h; cases h
  | some q => exact (xkitT_ok F z).2
/-- isinstance(e, ..) -/
def isxM (fq : List Fq) (i : Nat) (ts : List CK) : EM RV := exnM i fun x => (EM.opt (xisB fq x.cls ts)).bind retB
theorem je_isx {x : Str} {ty : Expr} {t : CK} {i : Nat} {p px pos : Pos} (F : FqOk X.K ca fq) (XP : XPins X ca) (hgi : Gl X "isinstance") (hmi : X.mg "isinstance" = none) (ht : TyName X ty t)
    (hN : X.N[i]? = some x) (hv : Vis X.env.scope x) (hd : (x == ("__debug__" : Str)) = false) (hcd : (x == ("__classdict__" : Str)) = false) : JE X ca (isxM fq i [t]) (.Call (.Name "isinstance" p) [.Name x px, ty] [] pos) := fun W tk => by
  refine PE.imp (pe_callB (call_isX XP) hgi hmi (by decide +kernel) (pa_cons (pe_var hN hv hd hcd) (pa_cons (pe_ty ht) pa_nil (star_cons ht.star)) rfl) (by decide) (by decide) rfl (noStars_any (es := [ty]) (by unfold noStars; simp [ht.star]))) fun σ H Q ⟨c, M, e, S, q⟩ => ?_
  obtain ⟨y, v, hs, ⟨a, cls, d, rfl, hx, xr⟩, q1⟩ := q.exn S
  obtain ⟨b, hb, q2⟩ := RdAt.optB q1
  have hc := xr.1
  subst hc
  exact ⟨_, hs, a, ca y.cls, d, t.v X.K, t.val X.K, b, rfl, hx, xr.xd hid_same, xisB_ok F hb, ck_clsV t, (xkitT_ok F (xisB_one hb)).1, q2.ret S ⟨rfl, trivial⟩⟩
theorem je_isxT {x : Str} {es : List Expr} {ts : List CK} {i k : Nat} {p px pt pos : Pos} (F : FqOk X.K ca fq) (XP : XPins X ca) (hgi : Gl X "isinstance") (hmi : X.mg "isinstance" = none) (ht : TyNames X es ts) (hz : ts.length ≤ sizeLine) (hne : ts ≠ [])
    (hN : X.N[i]? = some x) (hv : Vis X.env.scope x) (hd : (x == ("__debug__" : Str)) = false) (hcd : (x == ("__classdict__" : Str)) = false) : JE X ca (isxM fq i ts) (.Call (.Name "isinstance" p) [.Name x px, .Tuple es k pt] [] pos) := fun W tk => by
  refine PE.imp (pe_callB (call_isXT XP) hgi hmi (by decide +kernel) (pa_cons (pe_var hN hv hd hcd) (pa_cons (pe_tup (pa_tys ht)) pa_nil rfl) rfl) (by decide) (by decide) rfl rfl) fun σ H Q ⟨c, M, e, S, q⟩ => ?_
  obtain ⟨y, v, hs, ⟨a, cls, d, rfl, hx, xr⟩, q1⟩ := q.exn S
  obtain ⟨b, hb, q2⟩ := RdAt.optB q1
  have hc := xr.1
  subst hc
  have ok : ExC X.K (ca y.cls) := by
    cases ts with
    | nil => exact absurd rfl hne
    | cons t ts => exact xisB_ok F hb
  refine ⟨_, hs, tTys_run ⟨by rw [List.length_map]; exact hz, fun tp htp => ?_⟩⟩
  have S2 := S.alloc (o := .tup (ts.map (CK.v X.K))) htp
  exact ⟨a, ca y.cls, tp, d, ts.map (CK.v X.K), ts.map (CK.val X.K), b, rfl, hx, (xr.mono (same_upd htp)).xd hid_same, ok, upd_same, clsAll ts, xisB_any F hb, q2.ret S2 ⟨rfl, trivial⟩⟩
/-- e.f -/
def xflT (fq : List Fq) (c f : Str) : Bool := fq.any fun q => match q with
  | .xfl c' f' => c' == c && f' == f
  | _ => false
def PX.fld (x : PX) (f : Str) : Option PV := (x.ks.zip x.xs).lookup f
def xflM (fq : List Fq) (i : Nat) (f : Str) : EM RV := exnM i fun x => if xflT fq x.cls f then (EM.opt (x.fld f)).bind fun p => EM.ret (.val p) else EM.bad
theorem xflT_ok (F : FqOk K ca fq) {c f : Str} (h : xflT fq c f = true) : ExC K (ca c) ∧ PySem.W.findIn K (.ref (ca c)) f = some none := by
  obtain ⟨q, hq, hr⟩ := List.any_eq_true.mp h
  cases q with
  | xfl c' f' =>
    dsimp only at hr
    obtain ⟨h1, h2⟩ := and2 hr
    have e1 := beq_iff_eq.mp h1
    have e2 := beq_iff_eq.mp h2
    subst e1 e2
    obtain ⟨k1, k2⟩ := and2 (F.ok _ hq)
    rw [F.at_]
    exact ⟨excB_ok k1, eqB_ok k2⟩
  | _ => cases hr
theorem fld_rep {G : Hp} {f : Str} : ∀ {fs : List (Str × V)} {ks : List Str} {xs : List PV} {p : PV}, fs.map (·.1) = ks → Reps K ca G xs (fs.map (·.2)) → (ks.zip xs).lookup f = some p → ∃ v, fs.lookup f = some v ∧ Rep K ca G p v
  | [], _, xs, p, hk, r, h => by subst hk; simp at h
  | q :: fs, _, [], p, hk, r, h => by subst hk; simp at h
  | q :: fs, _, x :: xs, p, hk, r, h => by
    subst hk
    obtain ⟨v, vs, e1, r1, r2⟩ := r
    simp only [List.map_cons, List.cons.injEq] at e1
    obtain ⟨rfl, rfl⟩ := e1
    obtain ⟨qk, qv⟩ := q
    simp only [List.map_cons, List.zip_cons_cons, List.lookup_cons] at h
    cases z : f == qk with
    | true =>
      simp only [z] at h
      cases h
      exact ⟨qv, by simp only [List.lookup_cons, z], r1⟩
    | false =>
      simp only [z] at h
      obtain ⟨v, h1, h2⟩ := fld_rep (fs := fs) rfl r2 h
      exact ⟨v, by simp only [List.lookup_cons, z]; exact h1, h2⟩
def tXfl (K : PySem.W.Frag) (ca : CA) (f : Str) (te : TE) : TE := fun σ H Q => te σ H fun v H1 => ∃ (a C dd : Addr) (fs : List (Str × V)) (y : V), v = .ref a ∧ ca.xp a = some (.ref C, some dd) ∧ ExC K C ∧ PySem.W.findIn K (.ref C) f = some none ∧ H1 dd = some (.xd fs) ∧ fs.lookup f = some y ∧ Q y H1
theorem pe_xfl {ex : Expr} {te : TE} {f : Str} {pos : Pos} (XP : XPins X ca) (he : PE X ex te) (hb : attributeBase ex f X.env (eval ex X.env) = eval ex X.env) : PE X (.Attribute ex f pos) (tXfl X.K ca f te) := by
  refine ⟨fun pins s σ H Q I h => ?_⟩
  refine attr_of hb (thn (he.run pins s σ H _ I h) fun u s1 ⟨x, H1, I1, rx, a, C, dd, fs, y, ex, hx, xc, hno, ha, hl, q⟩ => ?_)
  subst ex
  obtain rfl : u = Value.ref a := rx
  obtain ⟨oe, vs, hp, hz, hf⟩ := XP a _ _ hx
  obtain ⟨hget, _⟩ := I1.pin (a, oe) (List.mem_append_left _ hp)
  have hk : ObjOk X.prog X.w H1 s1.heap dd (.xd fs) := I1.hok dd _ ha
  obtain ⟨mA, hns, hr⟩ := hk
  obtain ⟨od, ho, hlk⟩ := lookIn_ns hns
  obtain ⟨w, hw, rw'⟩ := RelO.some_of (v := y) (o := mA f) (by rw [← hl]; exact hr f)
  have J : PySem.W.InstAt s1.heap a oe C (some od) := ⟨hget, hz.1, by unfold PySem.W.notCls; rw [hf] <;> rfl, by rw [hz.2]; exact ho⟩
  exact HandSPX.exc_get I1.kIn J xc.ga xc.gg xc.sb (PySem.W.findObj_own xc.hd hno rfl (by rw [hlk, hw])) (handed_of rw') ⟨y, H1, I1.tok _, rw', q⟩
theorem je_xfl {x f : Str} {i : Nat} {px pos : Pos} (F : FqOk X.K ca fq) (XP : XPins X ca) (hb : attributeBase (.Name x px) f X.env (eval (.Name x px) X.env) = eval (.Name x px) X.env)
    (hN : X.N[i]? = some x) (hv : Vis X.env.scope x) (hd : (x == ("__debug__" : Str)) = false) (hcd : (x == ("__classdict__" : Str)) = false) : JE X ca (xflM fq i f) (.Attribute (.Name x px) f pos) := fun W tk =>
  PE.imp (pe_xfl XP (pe_var hN hv hd hcd) hb) fun σ H Q ⟨c, M, e, S, q⟩ => by
    obtain ⟨y, v, hs, ⟨a, cls, d, rfl, hx, xr⟩, q1⟩ := q.exn S
    obtain ⟨hk, q2⟩ := q1.ite
    obtain ⟨p, hp, q3⟩ := RdAt.optB q2
    obtain ⟨k1, k2⟩ := xflT_ok F hk
    obtain ⟨rfl, ⟨e1, e2, _⟩ | ⟨dd, fs, rfl, e2, e3, e4⟩⟩ := xr
    · unfold PX.fld at hp
      rw [e1, e2] at hp
      cases hp
    · obtain ⟨w, h1, h2⟩ := fld_rep e3 e4 hp
      exact ⟨_, hs, a, ca y.cls, dd, fs, w, rfl, hx, k1, k2, hid_same _ _ e2, h1, q3.ret S ⟨h2, trivial⟩⟩
end
/-! ### another table of handled exceptions -/
section
variable {ca : CA} {K : PySem.W.Frag} {c : Fx} {M M' M1 : Addr → Prop} {σ σ' σ1 : St} {H H' H1 G : Hp} {e e' e1 : En} {W : WX} {xp : Addr → Option (Value × Option Addr)}
abbrev CA.to (ca : CA) (xp : Addr → Option (Value × Option Addr)) : CA := ⟨ca.cls, xp⟩
mutual
theorem Rep.to : ∀ {p : PV} {v : V}, Rep K ca G p v → Rep K (ca.to xp) G p v
  | .non, _, h => h
  | .bl _, _, h => h
  | .int _, _, h => h
  | .str _, _, h => h
  | .tup xs, v, h => by obtain ⟨a, vs, e, q, r⟩ := h; exact ⟨a, vs, e, q, Reps.to r⟩
  | .lst xs, v, h => by obtain ⟨a, vs, e, q, r⟩ := h; exact ⟨a, vs, e, q, Reps.to r⟩
  | .rdl xs, v, h => by obtain ⟨a, vs, e, q, r⟩ := h; exact ⟨a, vs, e, q, Reps.to r⟩
  | .ins c ks xs, v, h => by obtain ⟨a, dx, fs, e, q, z, r⟩ := h; exact ⟨a, dx, fs, e, q, z, Reps.to r⟩
  | .dct ks xs, v, h => by obtain ⟨a, kvs, e, q, z, r⟩ := h; exact ⟨a, kvs, e, q, z, Reps.to r⟩
  | .cls _, _, h => h
theorem Reps.to : ∀ {ps : List PV} {vs : List V}, Reps K ca G ps vs → Reps K (ca.to xp) G ps vs
  | [], _, h => h
  | x :: xs, vs, h => by obtain ⟨v, r, e, h1, h2⟩ := h; exact ⟨v, r, e, Rep.to h1, Reps.to h2⟩
end
theorem MRep.to {a : Addr} {o : MO} (h : MRep K ca G H a o) : MRep K (ca.to xp) G H a o := by
  cases o with
  | lst xs => obtain ⟨vs, q, r⟩ := h; exact ⟨vs, q, r.to⟩
  | ins c ks xs => obtain ⟨dx, fs, q, z, r⟩ := h; exact ⟨dx, fs, q, z, r.to⟩
  | dct ks xs => obtain ⟨kvs, q, z, r⟩ := h; exact ⟨kvs, q, z, r.to⟩
theorem XR.to {x : PX} {cls : Value} {d : Option Addr} (h : XR K ca G x cls d) : XR K (ca.to xp) G x cls d := by
  obtain ⟨h1, h2 | ⟨dd, fs, e1, e2, e3, e4⟩⟩ := h
  · exact ⟨h1, .inl h2⟩
  · exact ⟨h1, .inr ⟨dd, fs, e1, e2, e3, e4.to⟩⟩
def Slot.isX : Slot → Bool
  | .exn _ => true
  | _ => false
def noX (e : En) : Bool := e.all fun o => match o with
  | some s => !s.isX
  | none => true
theorem noX_at {i : Nat} {s : Slot} (h : noX e = true) (q : e[i]? = some (some s)) : s.isX = false := by
  have := List.all_eq_true.mp h _ (List.mem_of_getElem? q)
  simpa using this
theorem Sim.slotX (S : Sim K ca c M σ H e) (hn : ∀ a, ca.xp a = none) {i : Nat} {s : Slot} (q : e[i]? = some (some s)) : s.isX = false := by
  cases s with
  | exn x =>
    obtain ⟨v, _, a, cls, d, _, hx, _⟩ := S.slot i _ q
    rw [hn] at hx
    cases hx
  | _ => rfl
theorem SRep.to {v : V} {s : Slot} (h : SRep K ca M H v s) (hx : s.isX = false) : SRep K (ca.to xp) M H v s := by
  cases s with
  | val p => exact Rep.to h
  | own o => obtain ⟨a, e1, e2, r⟩ := h; exact ⟨a, e1, e2, r.to⟩
  | par o => obtain ⟨a, e1, e2, r⟩ := h; exact ⟨a, e1, e2, r.to⟩
  | exn x => cases hx
theorem Sim.to (S : Sim K ca c M σ H e) (hx : ∀ (i : Nat) (s : Slot), e[i]? = some (some s) → s.isX = false) : Sim K (ca.to xp) c M σ H e :=
  ⟨S.len, fun i s q => by
    obtain ⟨v, e1, r⟩ := S.slot i s q
    exact ⟨v, e1, r.to (hx i s q)⟩, S.inj, S.ext, S.frame, S.ownd, S.par, S.there, S.cthere, S.sub⟩
/-- a slot is forgotten -/
theorem Sim.drop (S : Sim K ca c M σ H e) {i : Nat} (hp : ∀ p ∈ c.par, p.1 ≠ i) : Sim K ca c M (σ.set i none) H (e.set i none) := by
  have back : ∀ {j : Nat} {s : Slot}, (e.set i none)[j]? = some (some s) → j ≠ i ∧ e[j]? = some (some s) := fun {j s} q => by
    by_cases hj : j = i
    · subst hj
      by_cases hl : j < e.length
      · rw [List.getElem?_set_self hl] at q; cases q
      · rw [List.getElem?_eq_none (by simpa using hl)] at q; cases q
    · rw [List.getElem?_set_ne (Ne.symm hj)] at q
      exact ⟨hj, q⟩
  have backS : ∀ {j : Nat} {v : V}, (σ.set i none)[j]? = some (some v) → σ[j]? = some (some v) := fun {j v} q => by
    by_cases hj : j = i
    · subst hj
      by_cases hl : j < σ.length
      · rw [List.getElem?_set_self hl] at q; cases q
      · rw [List.getElem?_eq_none (by simpa using hl)] at q; cases q
    · rw [List.getElem?_set_ne (Ne.symm hj)] at q
      exact q
  refine ⟨by simp [S.len], fun j s q => ?_, fun j k s t a q1 q2 h1 h2 q3 q4 => ?_, S.ext, S.frame, fun j s a q h1 h2 => ?_, fun p hq => ?_, S.there, S.cthere, S.sub⟩
  · obtain ⟨hj, q⟩ := back q
    obtain ⟨v, e1, r⟩ := S.slot j s q
    exact ⟨v, by rw [List.getElem?_set_ne (Ne.symm hj)]; exact e1, r⟩
  · exact S.inj j k s t a (back q1).2 (back q2).2 h1 h2 (backS q3) (backS q4)
  · exact S.ownd j s a (back q).2 h1 (backS h2)
  · obtain ⟨q1, s, q2, q3⟩ := S.par p hq
    have hj := hp p hq
    exact ⟨by rw [List.getElem?_set_ne (Ne.symm hj)]; exact q1, s, by rw [List.getElem?_set_ne (Ne.symm hj)]; exact q2, q3⟩
/-- .. and stands for the exception that is handled -/
theorem Sim.catch (S : Sim K ca c M σ H e) (hn : ∀ a, ca.xp a = none) {i : Nat} {x : PX} {a : Addr} {cls : Value} {d : Option Addr} (xr : XRep K ca M H x cls d) (hs : setSl i (.exn x) e = some e') :
    Sim K (ca.to fun b => if b = a then some (cls, d) else none) c M (σ.set i (some (.ref a))) H e' := by
  obtain ⟨hi, rfl, hp⟩ := setSl_inv hs
  have hσ : i < σ.length := by rw [← S.len]; exact hi
  have S0 : Sim K (ca.to fun b => if b = a then some (cls, d) else none) c M σ H e := S.to fun j s q => S.slotX hn q
  have oth : ∀ {j : Nat} {s : Slot}, (e.set i (some (.exn x)))[j]? = some (some s) → (s.chg = true ∨ s.pin = true) → j ≠ i ∧ e[j]? = some (some s) := fun {j s} q hc => by
    rcases getSet hi q with ⟨rfl, z⟩ | h
    · cases z
      rcases hc with h | h <;> cases h
    · exact h
  have backS : ∀ {j : Nat} {v : V}, j ≠ i → (σ.set i (some (.ref a)))[j]? = some (some v) → σ[j]? = some (some v) := fun {j v} hj q => by
    rw [List.getElem?_set_ne (Ne.symm hj)] at q
    exact q
  refine ⟨by simp [S.len], fun j s q => ?_, fun j k s t b q1 q2 h1 h2 q3 q4 => ?_, S0.ext, S0.frame, fun j s b q h1 h2 => ?_, fun p hq => ?_, S0.there, S0.cthere, S0.sub⟩
  · rcases getSet hi q with ⟨rfl, z⟩ | ⟨hj, q⟩
    · cases z
      exact ⟨.ref a, List.getElem?_set_self hσ, a, cls, d, rfl, if_pos rfl, XR.to xr⟩
    · obtain ⟨v, e1, r⟩ := S0.slot j s q
      exact ⟨v, by rw [List.getElem?_set_ne (Ne.symm hj)]; exact e1, r⟩
  · obtain ⟨j1, q1⟩ := oth q1 (.inl h1)
    obtain ⟨j2, q2⟩ := oth q2 h2
    exact S0.inj j k s t b q1 q2 h1 h2 (backS j1 q3) (backS j2 q4)
  · obtain ⟨j1, q⟩ := oth q (.inl h1)
    exact S0.ownd j s b q h1 (backS j1 h2)
  · obtain ⟨q1, s, q2, q3⟩ := S0.par p hq
    have hj : p.1 ≠ i := fun z => by
      rw [z] at q2
      rw [hp s q2] at q3
      cases q3
    exact ⟨by rw [List.getElem?_set_ne (Ne.symm hj)]; exact q1, s, by rw [List.getElem?_set_ne (Ne.symm hj)]; exact q2, q3⟩
end
/-! ### raise -/
section
variable {X : Cx} {ca : CA} {W : WX} {fq : List Fq}
theorem pmk_own0 {x : Str} {C : Addr} {bmB : List Value} {B newId initId : String} {p pos : Pos} (F : ExcBaseFacts B newId initId bmB) (q : PySem.W.excIn X.K C bmB newId = true) (gC : X.mg x = some (.ref C)) (kC : PySem.W.keepIn X.K (.ref C) = true) (r : Raises X (.ref C)) (hg : Gl X x)
    (hdb : (x == ("__debug__" : Str)) = false) : PMk X (.Call (.Name x p) [] [] pos) (fun _ H Q => Q (.ref C) none H) := by
  intro pins s σ H Q I h
  refine wpAny_Call_Name_kw (ld_glob I hg gC ?_ hdb)
  refine PySem.W.callWith_K0 I.kIn kC ?_
  show wpAny _ _ (call (.ref C) []) _ _ _
  obtain ⟨bm, N, nm, qn, bs, hdct, sn, sub, ab, col, dd, k0, k1, k2, k3, k5, mN, hC, hN, hni, T⟩ := exc_obj I.kIn q
  refine wpAny_call_exc_subT F T hC hN hni (fun h' e hm => ?_) (Nat.zero_le _)
  exact mk_of I hm r h (I.hok.gone hm.new)
def raiseM (x : PX) : SM := fun e => .xc x e
def xc0T (fq : List Fq) (c : Str) : Bool := fq.any fun q => match q with
  | .xc0 c' => c' == c
  | _ => false
theorem js_raise0 {x : Str} {p pos pos' : Pos} (F : FqOk X.K ca fq) (h : xc0T fq x = true) (hc : X.calm = true) (hg : Gl X x) (hm : X.mg x = some (.ref (He.ga X.K x))) (hdb : (x == ("__debug__" : Str)) = false) : JS X ca (raiseM ⟨x, [], []⟩) (.Raise (some (.Call (.Name x p) [] [] pos)) none pos') := fun W tk => by
  obtain ⟨q, hq, hr⟩ := List.any_eq_true.mp h
  cases q <;> first | (cases hr; done) | skip
  case xc0 c' =>
    have e1 := beq_iff_eq.mp hr
    subst e1
    obtain ⟨k1, k⟩ := and2 (F.ok _ hq)
    obtain ⟨k2, k3⟩ := and2 k
    have ex := excB_ok k3
    refine PS.imp (ps_raise hc tk (pmk_own0 PySem.F.excBase_ValueError k1 hm k2 (raises_own ex.sb ex.ty) hg hdb)) fun D σ H ⟨c, M, e, S, q⟩ => ?_
    exact q _ _ σ H M S ⟨by rw [F.at_], .inl ⟨rfl, rfl, rfl⟩⟩
end
/-! ### try: .. except C as n: .. -/
def exmF (a b : Str) : Fq → Option Bool
  | .exm a' b' r => if a' = a ∧ b' = b then some r else none
  | _ => none
def exmT (fq : List Fq) (a b : Str) : Option Bool := fq.findSome? (exmF a b)
theorem exmT_ok {K : PySem.W.Frag} {ca : CA} {fq : List Fq} (F : FqOk K ca fq) {a b : Str} {r : Bool} (h : exmT fq a b = some r) : PySem.W.exmOne K (.ref (ca a)) (.ref (ca b)) = some r := by
  obtain ⟨f, hf, hr⟩ := List.exists_of_findSome?_eq_some h
  cases f with
  | exm a' b' r' =>
    unfold exmF at hr
    dsimp only at hr
    split at hr
    · rename_i z
      cases hr
      obtain ⟨rfl, rfl⟩ := z
      rw [F.at_, F.at_]
      exact eqB_ok (F.ok _ hf)
    · cases hr
  | _ => cases hr
/-- behind a suite the name is gone -/
def goneE (i : Nat) (e : En) : Option En := if noX (e.set i none) then some (e.set i none) else none
def behindS (i : Nat) : SR → SR
  | .nx e => match goneE i e with
    | some e' => .nx e'
    | none => .bad
  | .rt r e => match goneE i e with
    | some e' => .rt r e'
    | none => .bad
  | .bk e => match goneE i e with
    | some e' => .bk e'
    | none => .bad
  | .ct e => match goneE i e with
    | some e' => .ct e'
    | none => .bad
  | _ => .bad
def tryAs (fq : List Fq) (b : SM) (C : Str) (i : Nat) (h : SM) : SM := fun e => match b e with
  | .xc x e' => match exmT fq x.cls C with
    | some true => (match setSl i (.exn x) e' with
      | some e1 => behindS i (h e1)
      | none => .bad)
    | some false => .xc x e'
    | none => .bad
  | r => r
theorem takes_no {X : Cx} : Takes X (fun _ _ _ _ => False) := takes_none5
theorem goneE_inv {i : Nat} {e e' : En} (h : goneE i e = some e') : e' = e.set i none ∧ noX e' = true := by
  unfold goneE at h
  split at h
  · cases h; exact ⟨rfl, by assumption⟩
  · cases h
section
variable {X : Cx} {ca : CA} {W : WX} {fq : List Fq}
theorem relV.to {K : PySem.W.Frag} {c : Fx} {M : Addr → Prop} {σ : St} {H : Hp} {e : En} {xp : Addr → Option (Value × Option Addr)} {r : RV} {v : V} {i : Nat} (h : relV K ca c M σ H e r v) (hp : ∀ p ∈ c.par, p.1 ≠ i) (hx : noX (e.set i none) = true) : relV K (ca.to xp) c M (σ.set i none) H (e.set i none) r v := by
  refine ⟨h.1.to, ?_⟩
  cases r with
  | val p => trivial
  | own o =>
    obtain ⟨a, e1, e2, S, mr⟩ := h.2
    exact ⟨a, e1, e2, (S.drop hp).to fun j s q => noX_at hx q, mr.to⟩
theorem js_tryAs {x n : Str} {i : Nat} {body suite : List Stmt} {b₀ : Stmt} {np pos pos' : Pos} {mb mh : SM} (F : FqOk X.K ca fq) (hn : ∀ a, ca.xp a = none) (hs : X.stack = X.env :: X.outer) (hf : X.env.frame = some X.env.locals) (hN : X.N.Nodup) (hi : X.N[i]? = some n) (hln : X.env.scope.names.lookup n = some .local)
    (hg : Gl X x) (hdb : (x == ("__debug__" : Str)) = false) (hm : X.mg x = some (.ref (He.ga X.K x)))
    (hb : ∀ (pn : List (Addr × Obj)) (xe : Value → Shared → Prop), PassesOwn (model X.prog X.w) X.A X.env xe → JSs (X.tr pn xe) ca mb body)
    (hh : ∀ (a : Addr) (oe : Obj) (cls : Value) (d : Option Addr) (pn : List (Addr × Obj)), Zc cls d oe → (∃ vs, oe.data = .fields vs) → JSs (X.suite a ((a, oe) :: pn)) (ca.to fun b => if b = a then some (cls, d) else none) mh (b₀ :: suite)) :
    JS X ca (tryAs fq mb x i mh) (.Try body [.ExceptHandler (some (.Name x np)) (some n) (b₀ :: suite) pos'] [] [] pos) := fun W tk => by
  refine PS.imp (ps_try_as hs hf hN hi hln ⟨hg, hdb, .inl hm⟩ tk (tb := fun W => SRd X.K ca mb W) (fun W pn xe tk' po => hb pn xe po W tk') (ts := fun a cls d => SRd X.K (ca.to fun b => if b = a then some (cls, d) else none) mh (fun _ _ _ _ => False)) fun a oe cls d pn hz hfd => hh a oe cls d pn hz hfd _ takes_no) fun D σ H ⟨c, M, e, S, q⟩ => ?_
  refine ⟨c, M, e, S, ?_⟩
  unfold SRdAt tryAs at q
  unfold SRdAt
  cases z : mb e with
  | nx e' => rw [z] at q; exact q
  | rt r e' => rw [z] at q; exact q
  | bk e' => rw [z] at q; exact q
  | ct e' => rw [z] at q; exact q
  | bad => rw [z] at q; exact q
  | xc y e' =>
    simp only [z] at q
    intro cls d σ' H' M' S' xr
    have hc := xr.1
    subst hc
    cases ze : exmT fq y.cls x with
    | none => simp only [ze] at q
    | some b =>
      have hb1 := exmT_ok F ze
      rw [F.at_ x] at hb1
      refine ⟨b, hb1, fun hbt a ha => ?_, fun hbf => ?_⟩
      · subst hbt
        simp only [ze] at q
        cases zs : setSl i (.exn y) e' with
        | none => simp only [zs] at q
        | some e1 =>
          simp only [zs] at q
          have S1 := S'.catch hn (a := a) xr zs
          have npar : ∀ p ∈ c.par, p.1 ≠ i := fun p hp z => by
            obtain ⟨_, s, q2, q3⟩ := S'.par p hp
            rw [z] at q2
            rw [(setSl_inv zs).2.2 s q2] at q3
            cases q3
          have back : ∀ {M2 : Addr → Prop} {σ2 : St} {H2 : Hp} {e2 e3 : En}, goneE i e2 = some e3 → Sim X.K (ca.to fun b => if b = a then some (.ref (ca y.cls), d) else none) c M2 σ2 H2 e2 → Sim X.K ca c M2 (σ2.set i none) H2 e3 := fun {M2 σ2 H2 e2 e3} hgn S2 => by
            obtain ⟨rfl, hx⟩ := goneE_inv hgn
            exact (S2.drop npar).to fun j s q => noX_at hx q
          refine ⟨c, M', e1, S1, ?_⟩
          unfold SRdAt
          cases zh : mh e1 with
          | nx e2 =>
            rw [zh] at q
            unfold behindS at q
            cases zg : goneE i e2 with
            | none => simp only [zg] at q
            | some e3 =>
              simp only [zg] at q
              exact fun σ2 H2 M2 S2 => q _ H2 M2 (back zg S2)
          | rt r e2 =>
            rw [zh] at q
            unfold behindS at q
            cases zg : goneE i e2 with
            | none => simp only [zg] at q
            | some e3 =>
              simp only [zg] at q
              obtain ⟨rfl, hx⟩ := goneE_inv zg
              exact fun v σ2 H2 M2 S2 rr => q v _ H2 M2 (back zg S2) (relV.to (ca := ca.to fun b => if b = a then some (.ref (ca y.cls), d) else none) (xp := ca.xp) rr npar hx)
          | bk e2 =>
            rw [zh] at q
            unfold behindS at q
            cases zg : goneE i e2 with
            | none => simp only [zg] at q
            | some e3 =>
              simp only [zg] at q
              exact fun σ2 H2 M2 S2 => q _ H2 M2 (back zg S2)
          | ct e2 =>
            rw [zh] at q
            unfold behindS at q
            cases zg : goneE i e2 with
            | none => simp only [zg] at q
            | some e3 =>
              simp only [zg] at q
              exact fun σ2 H2 M2 S2 => q _ H2 M2 (back zg S2)
          | xc _ _ => rw [zh] at q; exact False.elim q
          | bad => rw [zh] at q; exact False.elim q
      · subst hbf
        simp only [ze] at q
        exact q _ d σ' H' M' S' xr
/-- without a name -/
def suiteS : SR → SR
  | .xc _ _ => .bad
  | r => r
def tryOn (fq : List Fq) (b : SM) (C : Str) (h : SM) : SM := fun e => match b e with
  | .xc x e' => match exmT fq x.cls C with
    | some true => suiteS (h e')
    | some false => .xc x e'
    | none => .bad
  | r => r
theorem js_tryOn {x : Str} {body suite : List Stmt} {b₀ : Stmt} {np pos pos' : Pos} {mb mh : SM} (F : FqOk X.K ca fq) (hs : X.stack = X.env :: X.outer) (hf : X.env.frame = some X.env.locals)
    (hg : Gl X x) (hdb : (x == ("__debug__" : Str)) = false) (hm : X.mg x = some (.ref (He.ga X.K x)))
    (hb : ∀ (pn : List (Addr × Obj)) (xe : Value → Shared → Prop), PassesOwn (model X.prog X.w) X.A X.env xe → JSs (X.tr pn xe) ca mb body)
    (hh : ∀ (a : Addr) (pn : List (Addr × Obj)), JSs (X.suite a pn) ca mh (b₀ :: suite)) :
    JS X ca (tryOn fq mb x mh) (.Try body [.ExceptHandler (some (.Name x np)) none (b₀ :: suite) pos'] [] [] pos) := fun W tk => by
  refine PS.imp (ps_try_only hs hf ⟨hg, hdb, .inl hm⟩ tk (tb := fun W => SRd X.K ca mb W) (fun W pn xe tk' po => hb pn xe po W tk') (ts := fun a cls d => SRd X.K ca mh (fun _ _ _ _ => False)) fun a oe cls d pn hz hfd => hh a ((a, oe) :: pn) _ takes_no) fun D σ H ⟨c, M, e, S, q⟩ => ?_
  refine ⟨c, M, e, S, ?_⟩
  unfold SRdAt tryOn at q
  unfold SRdAt
  cases z : mb e with
  | nx e' => rw [z] at q; exact q
  | rt r e' => rw [z] at q; exact q
  | bk e' => rw [z] at q; exact q
  | ct e' => rw [z] at q; exact q
  | bad => rw [z] at q; exact q
  | xc y e' =>
    simp only [z] at q
    intro cls d σ' H' M' S' xr
    have hc := xr.1
    subst hc
    cases ze : exmT fq y.cls x with
    | none => simp only [ze] at q
    | some b =>
      have hb1 := exmT_ok F ze
      rw [F.at_ x] at hb1
      refine ⟨b, hb1, fun hbt a ha => ?_, fun hbf => ?_⟩
      · subst hbt
        simp only [ze] at q
        refine ⟨c, M', e', S', ?_⟩
        unfold SRdAt
        cases zh : mh e' with
        | nx e2 => rw [zh] at q; exact q
        | rt r e2 => rw [zh] at q; exact q
        | bk e2 => rw [zh] at q; exact q
        | ct e2 => rw [zh] at q; exact q
        | xc _ _ => rw [zh] at q; exact False.elim q
        | bad => rw [zh] at q; exact False.elim q
      · subst hbf
        simp only [ze] at q
        exact q _ d σ' H' M' S' xr
end
end QB

namespace QB
open PySem L2
section
variable {X : Cx} {ca : CA} {K : PySem.W.Frag} {c : Fx} {M M' M1 : Addr → Prop} {σ σ' σ1 : St} {H H' H1 : Hp} {e e' e1 : En} {W : WX}
/-! ### slices -/
def relP : RelT (Option Int) (Option Int) := fun _ _ _ _ _ a b => a = b
theorem PO.imp {o : Option Expr} {t t' : TO} (h : PO X o t) (i : ∀ σ H Q, t' σ H Q → t σ H Q) : PO X o t' := ⟨fun pins s σ H Q I q => h.run pins s σ H Q I (i σ H Q q)⟩
def JP (X : Cx) (ca : CA) (m : EM (Option Int)) (o : Option Expr) : Prop := ∀ W, Takes X W → PO X o (Rd X.K ca m relP W)
def noPart : EM (Option Int) := EM.ret none
def intP : PV → EM (Option Int)
  | .int i => EM.ret (some i)
  | _ => EM.bad
def partM (m : EM Opd) : EM (Option Int) := one m intP
theorem jp_none : JP X ca noPart none := fun W tk => PO.imp po_none fun σ H Q ⟨c, M, e, S, h⟩ => h.ret S rfl
theorem jp_some {m : EM Opd} {ex : Expr} (h : JO X ca m ex) : JP X ca (partM m) (some ex) := fun W tk =>
  PO.imp (po_some (h W tk)) fun σ H Q ⟨c, M, e, S, q⟩ => RdAt.bind q S fun o v H1 M1 e1 S1 _ _ r q1 => by
    obtain ⟨p, _, rp, q2⟩ := q1.lookM S1 r
    cases p <;> first | exact False.elim q2 | skip
    case int =>
      cases rp
      exact ⟨_, rfl, q2.ret S1 rfl⟩
def cutP {α : Type} (xs : List α) (lo hi : Option Int) : List α := (xs.drop (HT.sIx xs.length 0 lo)).take (HT.sIx xs.length xs.length hi - HT.sIx xs.length 0 lo)
theorem Reps.cut {G : Hp} {ps : List PV} {vs : List V} (h : Reps K ca G ps vs) (lo hi : Option Int) : Reps K ca G (cutP ps lo hi) (cutV vs lo hi) := by
  unfold cutP cutV
  rw [h.length]
  exact (h.drop _).take _
def slP (p : PV) (lo hi : Option Int) : EM RV := match p with
  | .str z => if szOk z.length then EM.ret (.val (.str (cutS z lo hi))) else EM.bad
  | .lst xs => EM.ret (.own (.lst (cutP xs lo hi)))
  | .rdl xs => EM.ret (.own (.lst (cutP xs lo hi)))
  | .tup xs => EM.ret (.val (.tup (cutP xs lo hi)))
  | _ => EM.bad
theorem cut_whole {α : Type} {xs : List α} {lo hi : Option Int} (h : HT.sIx xs.length 0 lo = 0 ∧ HT.sIx xs.length xs.length hi = xs.length) : cutP xs lo hi = xs := by
  unfold cutP
  rw [h.1, h.2]
  simp
def rSlX (K : PySem.W.Frag) (ca : CA) (W : WX) : V → Option Int → Option Int → Hp → VK → Prop := fun v lo hi H Q => ∃ c M σ e x, Sim K ca c M σ H e ∧ RepT K ca (hid H M) H x v ∧ RdAt K ca c (slP x lo hi) (relV K ca) W e σ Q
theorem sl_all {W : WX} : SlR X (QB.rSlX X.K ca W) := by
  intro pins s σ0 H v u vl vu lo hi sl Q I r1 hs pl pu ⟨c, M, σ, e, x, S, rx, h⟩
  cases x <;> first | exact False.elim h | skip
  case str z =>
    cases rx
    obtain ⟨hz, h⟩ := RdAt.ite h
    exact sl_str pins s σ0 H _ u vl vu lo hi sl Q I r1 hs pl pu ⟨z, rfl, of_decide_eq_true hz, h.ret S ⟨rfl, trivial⟩⟩
  case lst xs =>
    obtain ⟨a, vs, rfl, ha, ra⟩ := rx
    exact sl_list pins s σ0 H _ u vl vu lo hi sl Q I r1 hs pl pu ⟨a, vs, rfl, SqL.of ha, fun p hp => h.ret (S.alloc hp) (relV.newL S hp (ra.cut lo hi))⟩
  case rdl xs =>
    obtain ⟨a, vs, rfl, ha, ra⟩ := rx
    exact sl_list pins s σ0 H _ u vl vu lo hi sl Q I r1 hs pl pu ⟨a, vs, rfl, Same.seq hid_same ha, fun p hp => h.ret (S.alloc hp) (relV.newL S hp (ra.cut lo hi))⟩
  case tup xs =>
    obtain ⟨a, vs, rfl, ha, ra⟩ := rx
    refine sl_tupA pins s σ0 H _ u vl vu lo hi sl Q I r1 hs pl pu ⟨a, vs, rfl, Same.sqT hid_same ha, fun hw => ?_, fun _ p hp => h.ret (S.alloc hp) (relV.newT S hp (ra.cut lo hi))⟩
    rw [ra.length] at hw
    refine h.ret S ⟨?_, trivial⟩
    show Rep X.K ca (hid H M) (.tup (cutP xs lo hi)) (.ref a)
    rw [cut_whole hw]
    exact ⟨a, vs, rfl, ha, ra⟩
def slcM (mo : EM Opd) (ml mh : EM (Option Int)) : EM RV := mo.bind fun o => ml.bind fun l => mh.bind fun h => (lookM o).bind fun p => slP p l h
theorem je_slc {ex : Expr} {lo hi : Option Expr} {mo : EM Opd} {ml mh : EM (Option Int)} {p2 pos : Pos} (ho : JO X ca mo ex) (hl : JP X ca ml lo) (hh : JP X ca mh hi) : JE X ca (slcM mo ml mh) (.Subscript ex (.Slice lo hi none p2) pos) := fun W tk =>
  PE.imp (pe_slice sl_all (ho W tk) (hl W tk) (hh W tk)) fun σ H Q ⟨c, M, e, S, q⟩ => RdAt.bind q S fun o v H1 M1 e1 S1 _ _ r q1 =>
    RdAt.bind q1 S1 fun l l' H2 M2 e2 S2 sm2 _ rl q2 => RdAt.bind q2 S2 fun h h' H3 M3 e3 S3 sm3 _ rh q3 => by
      cases rl; cases rh
      obtain ⟨p, _, rp, q4⟩ := q3.lookM (c' := c) (e' := e3) S3 (relO.mono r (sm2.trans sm3))
      exact ⟨c, M3, σ, e3, p, S3, rp, q4⟩
/-- xs[::-1] -/
def revP : PV → EM RV
  | .lst xs => EM.ret (.own (.lst xs.reverse))
  | .rdl xs => EM.ret (.own (.lst xs.reverse))
  | _ => EM.bad
theorem Reps.rev {G : Hp} : ∀ {ps : List PV} {vs : List V}, Reps K ca G ps vs → Reps K ca G ps.reverse vs.reverse
  | [], _, h => by rw [show _ = [] from h]; rfl
  | x :: xs, vs, h => by
    obtain ⟨v, r, rfl, h1, h2⟩ := h
    rw [List.reverse_cons, List.reverse_cons]
    exact (Reps.rev h2).append (Reps.one h1)
theorem je_rev {ex : Expr} {mo : EM Opd} {k : Nat} {p1 p2 p3 pos : Pos} (ho : JO X ca mo ex) : JE X ca (one mo revP) (.Subscript ex (.Slice none none (some (.UnaryOp .USub (.Constant (.int 1) k p1) p2)) p3) pos) := fun W tk =>
  PE.imp (pe_revL (ho W tk)) fun σ H Q ⟨c, M, e, S, q⟩ => RdAt.bind q S fun o v H1 M1 e1 S1 _ _ r q1 => by
    obtain ⟨p, _, rp, q2⟩ := q1.lookM S1 r
    cases p <;> first | exact False.elim q2 | skip
    case lst =>
      obtain ⟨a, vs, rfl, ha, ra⟩ := rp
      exact ⟨a, vs, rfl, SqL.of ha, fun p hp => q2.ret (S1.alloc hp) (relV.newL S1 hp ra.rev)⟩
    case rdl =>
      obtain ⟨a, vs, rfl, ha, ra⟩ := rp
      exact ⟨a, vs, rfl, Same.seq hid_same ha, fun p hp => q2.ret (S1.alloc hp) (relV.newL S1 hp ra.rev)⟩
/-! ### [*a, b] -/
def seqP : PV → Option (List PV)
  | .tup xs => some xs
  | .lst xs => some xs
  | .rdl xs => some xs
  | _ => none
def valsStar (m : EM RV) (ms : EM (List PV)) : EM (List PV) := m.bind fun r => (EM.opt (seqP r.pv)).bind fun xs => ms.bind fun ps => EM.ret (xs ++ ps)
theorem seqP_rep {G : Hp} {p : PV} {v : V} {xs : List PV} (h : seqP p = some xs) (r : Rep K ca G p v) (s : Same G H) : ∃ a vs, v = .ref a ∧ (SqT K H a vs ∨ SqL K H a vs) ∧ Reps K ca G xs vs := by
  cases p <;> first | (cases h; done) | skip
  case tup ys => cases h; obtain ⟨a, vs, e, q, r⟩ := r; exact ⟨a, vs, e, .inl (Same.sqT s q), r⟩
  case lst ys => cases h; obtain ⟨a, vs, e, q, r⟩ := r; exact ⟨a, vs, e, .inr (SqL.of (s _ _ q)), r⟩
  case rdl ys => cases h; obtain ⟨a, vs, e, q, r⟩ := r; exact ⟨a, vs, e, .inr (Same.seq s q), r⟩
theorem jv_star {ex : Expr} {es : List Expr} {m : EM RV} {ms : EM (List PV)} {p : Pos} (h : JE X ca m ex) (hr : JV X ca ms es) : JV X ca (valsStar m ms) (.Starred ex p :: es) := fun W tk =>
  PA.imp (StX.pa_star (h W tk) (hr W tk)) fun σ H Q ⟨c, M, e, S, q⟩ => RdAt.bind q S fun r v H1 M1 e1 S1 _ _ rr q1 => by
    obtain ⟨xs, hx, q2⟩ := RdAt.optB q1
    obtain ⟨a, vs, rfl, hs, rv⟩ := seqP_rep hx rr.1 hid_same
    refine ⟨a, vs, rfl, hs, RdAt.bind q2 S1 fun ps ws H2 M2 e2 S2 sm _ r2 q3 => q3.ret S2 ?_⟩
    exact (rv.mono sm).append r2
/-! ### a, b, c = x, y, z -/
def asg3M (i j l : Nat) (m : EM (List PV)) : SM := thenS m fun ps e => match ps with
  | [p, q, r] => match setSl i (.val p) e with
    | some e1 => (match setSl j (.val q) e1 with
      | some e2 => optS (setSl l (.val r) e2)
      | none => .bad)
    | none => .bad
  | _ => .bad
theorem js_par3 {i j l : Nat} {x y z : Str} {a b d : Expr} {m : EM (List PV)} {px py pz pt pos : Pos} {kt k2 pt2} (hc : X.calm = true) (hN : X.N.Nodup) (hi : X.N[i]? = some x) (hj : X.N[j]? = some y) (hl : X.N[l]? = some z) (hij : i ≠ j) (hil : i ≠ l) (hjl : j ≠ l)
    (hx : X.env.scope.names.lookup x = some .local) (hy : X.env.scope.names.lookup y = some .local) (hz : X.env.scope.names.lookup z = some .local) (ha : JV X ca m [a, b, d])
    (hw : swappedStores [.Tuple [.Name x px, .Name y py, .Name z pz] kt pt] (.Tuple [a, b, d] k2 pt2) X.env = pure (some [x, y, z])) :
    JS X ca (asg3M i j l m) (.Assign [.Tuple [.Name x px, .Name y py, .Name z pz] kt pt] (.Tuple [a, b, d] k2 pt2) pos) := fun W tk =>
  PS.imp (ps_par3 hc hN hi hj hl hij hil hjl hx hy hz (ha W tk) hw rfl) fun D σ H ⟨c, M, e, S, q⟩ => SRdAt.thenS q S fun ps vs H1 M1 e1 S1 _ rr q1 => by
    unfold SRdAt at q1
    match ps, rr, q1 with
    | [], _, q1 => exact False.elim q1
    | [_], _, q1 => exact False.elim q1
    | [_, _], _, q1 => exact False.elim q1
    | _ :: _ :: _ :: _ :: _, _, q1 => exact False.elim q1
    | [p, r, t], rr, q1 =>
      obtain ⟨v, vs', rfl, rp, v2, vs2, rfl, rp2, v3, vs3, rfl, rp3, e0⟩ := rr
      cases e0
      refine ⟨v, v2, v3, rfl, ?_⟩
      dsimp only at q1
      cases z1 : setSl i (.val p) e1 with
      | none => simp only [z1] at q1
      | some e2 =>
        simp only [z1] at q1
        have S2 := S1.storeV rp z1
        cases z2 : setSl j (.val r) e2 with
        | none => simp only [z2] at q1
        | some e3 =>
          simp only [z2] at q1
          have S3 := S2.storeV rp2 z2
          cases z3 : setSl l (.val t) e3 with
          | none => simp only [z3, optS] at q1
          | some e4 =>
            simp only [z3, optS] at q1
            exact q1 _ H1 M1 (S3.storeV rp3 z3)
end
end QB

namespace QB
open PySem L2
/-! ### o.m(..): how the text runs -/
theorem eval_meth {o : Expr} {name : Str} {apos pos : Pos} {args : List Expr} {kws : List Keyword} {env : Env} (hb : attributeBase o name env (eval o env) = eval o env)
    (hf : methodCallForm (args.length + kws.length) (backTo pos (starEach args env)) (backToKw pos (keywordEach kws env)) = true) (hl : (apos.endLine == pos.line) = true) :
    eval (.Call (.Attribute o name apos) args kws pos) env = (do
      let ov ← eval o env
      standAt apos.atName
      let (f, first) ← holding [ov] (getMethod ov name (do return (← importBound o env).getD true))
      callWith pos f first (backTo pos (starEach args env)) (backToKw pos (keywordEach kws env))) := by
  rw [arm_eval_Call, hb]
  have hp : methodCallPos true o env apos pos = pure pos := by unfold methodCallPos; simp [hl]
  unfold methodCall
  rw [hf]
  unfold calleeOf
  simp only [if_true]
  rw [hp]
  simp
theorem form_ok {es : List Expr} {kws : List Keyword} {env : Env} {pos : Pos} (hs : noStars es = true) (hq : ∀ q ∈ kws, q.arg.isSome = true) (hn : es.length + kws.length + 1 < 30) :
    methodCallForm (es.length + kws.length) (backTo pos (starEach es env)) (backToKw pos (keywordEach kws env)) = true := by
  unfold methodCallForm
  have h1 := noStars_any (pos := pos) (env := env) hs
  have h2 := (kwAll (pos := pos) (env := env) hq).1
  have h3 : (backTo pos (starEach es env)).all (fun x => !x.1) = true := by
    rw [List.all_eq_true]
    intro x hx
    cases z : x.1 with
    | false => rfl
    | true =>
      have : (backTo pos (starEach es env)).any (·.1) = true := List.any_eq_true.mpr ⟨x, hx, z⟩
      rw [h1] at this
      cases this
  rw [h3, h2]
  simp only [Bool.true_and, decide_eq_true_eq]
  split <;> omega
/-- a method of the class at C, as it is called with n arguments (the object among them) and the keywords ks -/
def MOk (rp : Bool) (X : Cx) (C : Addr) (m : Str) (n : Nat) (ks : List Str) (sp : Sp) (gV : List V → List V → List V) : Prop :=
  ∃ f fd ps k g, Cls X.K C ∧ Meth X.K C m f ∧ FnR rp X.prog X.w X.K X.mg X.base k f fd ps sp ∧ Room k X.A ∧ KBn X.K fd ps n ks g gV
section
variable {rp : Bool} {X : Cx} {n : Nat} {ks : List Str} {E : St → XK} {m : Str} {p pos apos : Pos} {o : Expr} {es : List Expr} {kws : List Keyword} {ta : TE} {t tk : TA}
def tMethG (rp : Bool) (X : Cx) (m : Str) (n : Nat) (ks : List Str) (E : St → XK) (ta : TE) (t tk : TA) : TE := fun σ H Q => ta σ H fun x H1 => ∃ a C dx fs sp gV, x = .ref a ∧ H1 a = some (.ins C dx fs) ∧ fs.lookup m = none ∧ MOk rp X C m n ks sp gV ∧
  t σ H1 fun vs H2 => tk σ H2 fun zs H3 => vs.length + 1 = n ∧ zs.length = ks.length ∧ sp (gV (.ref a :: vs) zs) H3 Q (E σ)
theorem pe_methG {e : Expr} (hgd : rp = true → X.A.guards = some []) (he : PE X o ta) (ha : PA X (e :: es) t) (hk : PK X kws tk) (hx : ∀ σ, PassesAt (L2.CX X.prog X.w) X σ (E σ)) (hb : attributeBase o m X.env (eval o X.env) = eval o X.env) (hl : (apos.endLine == pos.line) = true)
    (hs : noStars (e :: es) = true) (hq : ∀ q ∈ kws, q.arg.isSome = true) (hks : kws.filterMap (·.arg) = ks) (hn : (e :: es).length + kws.length + 1 < 30) : PE X (.Call (.Attribute o m apos) (e :: es) kws pos) (tMethG rp X m n ks E ta t tk) := by
  refine ⟨fun pins s σ H Q I h => ?_⟩
  obtain ⟨k1, k2, k3⟩ := kwAll (pos := pos) (env := X.env) hq
  refine PySem.W.methodCall_KW (thn (he.run pins s σ H _ I h) fun u s1 ⟨x, H1, I1, rx, a, C, dx, fs, sp, gV, ex, ea, l, mo, q⟩ => ?_) (eval_meth hb (form_ok hs hq hn) hl)
  subst ex
  obtain rfl : u = Value.ref a := rx
  obtain ⟨f, fd, ps, k, g, c, me, F, hr, kb⟩ := mo
  refine getmeth_ok I1 ea c me l ?_
  have hs' := hs
  unfold noStars at hs'
  rw [List.all_cons, Bool.and_eq_true] at hs'
  have hst := star_cons (es := es) (env := X.env) (show isStar e = false by simpa using hs'.1)
  refine PySem.W.callWith_KW (first := [.ref a]) (h₀ := X.base) I.ok.mod.kin me.kp k1 (thn (ha.run pos pins s1 σ H1 _ I1 q) fun us s2 ⟨vs, H2, I2, r, q2⟩ => ?_) (by rw [noStars_any hs, k2]; rfl) hst
  refine thn (hk.run pos pins s2 σ H2 _ I2 q2) fun ws s3 ⟨zs, H3, I3, rz, l1, l2, q3⟩ => ⟨I3.kIn, ?_⟩
  rw [k3, hks]
  exact run_fnG (us := .ref a :: us) (vs := .ref a :: vs) F hgd hr kb (hx σ) I3 (.cons rfl r) rz l1 l2 q3
theorem pe_methG0 (hgd : rp = true → X.A.guards = some []) (he : PE X o ta) (hk : PK X kws tk) (hx : ∀ σ, PassesAt (L2.CX X.prog X.w) X σ (E σ)) (hb : attributeBase o m X.env (eval o X.env) = eval o X.env) (hl : (apos.endLine == pos.line) = true)
    (hq : ∀ q ∈ kws, q.arg.isSome = true) (hks : kws.filterMap (·.arg) = ks) (hn : kws.length + 1 < 30) : PE X (.Call (.Attribute o m apos) [] kws pos) (tMethG rp X m n ks E ta tNil tk) := by
  refine ⟨fun pins s σ H Q I h => ?_⟩
  obtain ⟨k1, k2, k3⟩ := kwAll (pos := pos) (env := X.env) hq
  refine PySem.W.methodCall_KW (thn (he.run pins s σ H _ I h) fun u s1 ⟨x, H1, I1, rx, a, C, dx, fs, sp, gV, ex, ea, l, mo, q⟩ => ?_) (eval_meth hb (form_ok (es := []) rfl hq (by simpa using hn)) hl)
  subst ex
  obtain rfl : u = Value.ref a := rx
  obtain ⟨f, fd, ps, k, g, c, me, F, hr, kb⟩ := mo
  refine getmeth_ok I1 ea c me l ?_
  refine PySem.W.callWith_KW0 (first := [.ref a]) (h₀ := X.base) I.ok.mod.kin me.kp k1 ?_ (by rw [k2]; rfl)
  refine thn (hk.run pos pins s1 σ H1 _ I1 q) fun ws s3 ⟨zs, H3, I3, rz, l1, l2, q3⟩ => ⟨I3.kIn, ?_⟩
  rw [k3, hks]
  exact run_fnG (us := [.ref a]) (vs := [.ref a]) F hgd hr kb (hx σ) I3 (.cons rfl .nil) rz l1 l2 q3
end
theorem Rd.mono {α β : Type} {K : PySem.W.Frag} {ca : CA} {m : EM α} {rel : RelT α β} {W : WX} {σ : St} {H : Hp} {Q Q' : β → Hp → Prop} (h : Rd K ca m rel W σ H Q) (i : ∀ b H, Q b H → Q' b H) : Rd K ca m rel W σ H Q' := by
  obtain ⟨c, M, e, S, q⟩ := h
  refine ⟨c, M, e, S, ?_⟩
  unfold RdAt at q ⊢
  cases z : m e with
  | ok a e' => rw [z] at q; exact fun b H' M' S' r => i b H' (q b H' M' S' r)
  | exc x e' => rw [z] at q; exact q
  | bad => rw [z] at q; exact q
theorem Rd.nil {K : PySem.W.Frag} {ca : CA} {W : WX} {σ : St} {H : Hp} {Q : List V → Hp → Prop} (h : Rd K ca opdsNil (relOs K ca) W σ H Q) : Q [] H := by
  obtain ⟨c, M, e, S, q⟩ := h
  exact q.ret S .nil
/-! ### methods, by values -/
structure MethE where
  cls : Str
  E : FnE
def MethE.Ok (X : Cx) (ca : CA) (lvl : Nat) (M : MethE) : Prop := ∃ f fd k, k + 2 ≤ lvl ∧ Cls X.K (ca M.cls) ∧ Meth X.K (ca M.cls) M.E.name f ∧
  FnR false X.prog X.w X.K X.mg X.base k f fd M.E.ps (spF X.K ca M.E.ps.length M.E.sem) ∧ ∀ s ∈ M.E.shapes, ShapeOk X.K ca fd M.E.ps s
def findM (tbl : List MethE) (c m : Str) (n : Nat) (ks : List Str) : Option (MethE × Shape) := match tbl.find? (fun e => e.cls == c && e.E.name == m) with
  | some e => match e.E.shapes.find? (fun s => s.n == n && decide (s.ks = ks)) with
    | some s => some (e, s)
    | none => none
  | none => none
theorem findM_inv {tbl : List MethE} {c m : Str} {n : Nat} {ks : List Str} {e : MethE} {s : Shape} (h : findM tbl c m n ks = some (e, s)) : e ∈ tbl ∧ e.cls = c ∧ e.E.name = m ∧ s ∈ e.E.shapes ∧ s.n = n ∧ s.ks = ks := by
  unfold findM at h
  cases z1 : tbl.find? (fun e => e.cls == c && e.E.name == m) with
  | none => simp only [z1] at h; cases h
  | some e' =>
    cases z2 : e'.E.shapes.find? (fun s => s.n == n && decide (s.ks = ks)) with
    | none => simp only [z1, z2] at h; cases h
    | some s' =>
      simp only [z1, z2] at h
      cases h
      have q1 := List.find?_some z1
      have q2 := List.find?_some z2
      simp only [Bool.and_eq_true, beq_iff_eq, decide_eq_true_eq] at q1 q2
      exact ⟨List.mem_of_find?_eq_some z1, q1.1, q1.2, List.mem_of_find?_eq_some z2, q2.1, q2.2⟩
def methK (tbl : List MethE) (m : Str) (n : Nat) (ks : List Str) (o : Opd) (ms mk : EM (List Opd)) : PV → EM RV
  | .ins c fs _ => if fs.contains m then EM.bad else match findM tbl c m n ks with
    | some (e, s) => ms.bind fun os => mk.bind fun zs => callK e.E.sem e.E.ps.length s (o :: os) zs
    | none => EM.bad
  | _ => EM.bad
def methM (tbl : List MethE) (m : Str) (n : Nat) (ks : List Str) (mo : EM Opd) (ms mk : EM (List Opd)) : EM RV := mo.bind fun o => (lookM o).bind fun p => methK tbl m n ks o ms mk p
theorem lookup_none {fs : List (Str × V)} {m : Str} (h : (fs.map (·.1)).contains m = false) : fs.lookup m = none := by
  rw [List.lookup_eq_none_iff]
  intro p hp
  cases z : m == p.1 with
  | false => simp [bne, z]
  | true =>
    have : (fs.map (·.1)).contains m = true := by
      rw [List.contains_iff_mem]
      rw [beq_iff_eq.mp z]
      exact List.mem_map.mpr ⟨p, hp, rfl⟩
    rw [h] at this
    cases this
section
variable {rp : Bool} {X : Cx} {ca : CA} {lvl : Nat} {tbl : List MethE} {m : Str} {pos apos : Pos} {o : Expr} {es : List Expr} {kws : List Keyword} {mo : EM Opd} {ms mk : EM (List Opd)}
theorem meth_sem {W : WX} {σ : St} {H : Hp} {Q : VK} {n : Nat} {ks : List Str} (ok : ∀ e ∈ tbl, e.Ok X ca lvl) (hr : Room lvl X.A) (h : Rd X.K ca (methM tbl m (n + 1) ks mo ms mk) (relV X.K ca) W σ H Q) :
    tMethG false X m (n + 1) ks (WE W) (Rd X.K ca mo (relO X.K ca) W) (Rd X.K ca ms (relOs X.K ca) W) (Rd X.K ca mk (relOs X.K ca) W) σ H Q := by
  obtain ⟨c, M, e, S, q⟩ := h
  refine RdAt.bind q S fun o v H1 M1 e1 S1 _ _ r q1 => ?_
  obtain ⟨p, hlk, rp', q2⟩ := q1.lookM S1 r
  clear hlk
  cases p <;> first | exact False.elim q2 | skip
  case ins cn fk xs =>
    unfold methK at q2
    dsimp only at q2
    cases z0 : fk.contains m with
    | true => simp only [z0, if_true] at q2; exact False.elim q2
    | false =>
    simp only [z0, Bool.false_eq_true, if_false] at q2
    cases z1 : findM tbl cn m (n + 1) ks with
    | none => simp only [z1] at q2; exact False.elim q2
    | some es' =>
      obtain ⟨E, s⟩ := es'
      simp only [z1] at q2
      obtain ⟨h1, h2, h3, h4, h5, h6⟩ := findM_inv z1
      obtain ⟨a, dx, fs, rfl, ha, hk, ra⟩ := rp'
      obtain ⟨f, fd, k, kl, hc, hm, F, sh⟩ := ok E h1
      obtain ⟨dvs, its, hd, hb⟩ := sh s h4
      rw [h2] at hc hm
      rw [h3] at hm
      rw [h5, h6] at hb
      refine ⟨a, ca cn, dx, fs, _, _, rfl, ha, lookup_none (by rw [hk]; exact z0), ⟨f, fd, E.E.ps, k, _, hc, hm, F, hr.mono (Nat.le_of_succ_le (Nat.le_of_succ_le kl)), hb⟩, ?_⟩
      refine RdAt.bind q2 S1 fun os vs H2 M2 e2 S2 sm2 _ r2 q3 => ?_
      refine RdAt.bind q3 S2 fun zs ws H3 M3 e3 S3 sm3 _ r3 q4 => ?_
      obtain ⟨l1, l2, l3⟩ := call_at q4 S3 (.cons (relO.mono r (sm2.trans sm3)) (relOs.mono r2 sm3)) (relOs.mono r3 (Same.refl _)) hd
      rw [h5] at l1
      rw [h6] at l2
      exact ⟨l1, l2, l3⟩
theorem je_meth {a : Expr} (ok : ∀ e ∈ tbl, e.Ok X ca lvl) (hr : Room lvl X.A) (hb : attributeBase o m X.env (eval o X.env) = eval o X.env) (hl : (apos.endLine == pos.line) = true)
    (hs : noStars (a :: es) = true) (hq : ∀ q ∈ kws, q.arg.isSome = true) (hn : (a :: es).length + kws.length + 1 < 30) (ho : JO X ca mo o) (ha : JA X ca ms (a :: es)) (hk : JK X ca mk kws) :
    JE X ca (methM tbl m ((a :: es).length + 1) (kws.filterMap (·.arg)) mo ms mk) (.Call (.Attribute o m apos) (a :: es) kws pos) := fun W tk =>
  PE.imp (pe_methG (rp := false) (n := (a :: es).length + 1) (fun z => by cases z) (ho W tk) (ha W tk) (hk W tk) (fun σ => passAt tk σ) hb hl hs hq rfl hn) fun σ H Q h => meth_sem ok hr h
theorem je_meth0 (ok : ∀ e ∈ tbl, e.Ok X ca lvl) (hr : Room lvl X.A) (hb : attributeBase o m X.env (eval o X.env) = eval o X.env) (hl : (apos.endLine == pos.line) = true)
    (hq : ∀ q ∈ kws, q.arg.isSome = true) (hn : kws.length + 1 < 30) (ho : JO X ca mo o) (hk : JK X ca mk kws) :
    JE X ca (methM tbl m 1 (kws.filterMap (·.arg)) mo opdsNil mk) (.Call (.Attribute o m apos) [] kws pos) := fun W tk =>
  PE.imp (pe_methG0 (rp := false) (n := 1) (fun z => by cases z) (ho W tk) (hk W tk) (fun σ => passAt tk σ) hb hl hq rfl hn) fun σ H Q h => by
    have h2 : Rd X.K ca mo (relO X.K ca) W σ H _ := meth_sem (n := 0) ok hr h
    exact Rd.mono h2 fun x H1 ⟨a, C, dx, fs, sp, gV, h1, h2, h3, h4, h5⟩ => ⟨a, C, dx, fs, sp, gV, h1, h2, h3, h4, Rd.nil h5⟩
end
/-! ### a new object -/
section
variable {ca : CA} {K : PySem.W.Frag} {c c' : Fx} {M M' M1 : Addr → Prop} {σ σ' σ1 : St} {H H' H1 : Hp} {e e' e1 : En} {W : WX}
theorem app_get {α : Type} {l : List (Option α)} {y : Option α} {j : Nat} {s : α} (h : (l ++ [y])[j]? = some (some s)) : (j < l.length ∧ l[j]? = some (some s)) ∨ (j = l.length ∧ y = some s) := by
  by_cases hj : j < l.length
  · rw [List.getElem?_append_left hj] at h
    exact .inl ⟨hj, h⟩
  · rw [List.getElem?_append_right (by omega)] at h
    have h0 : j - l.length = 0 := by
      have := (List.getElem?_eq_some_iff.mp h).1
      simp at this
      omega
    rw [h0] at h
    cases h
    exact .inr ⟨by omega, rfl⟩
theorem app_lt {α : Type} {l : List (Option α)} {y : Option α} {j : Nat} (h : j < l.length) : (l ++ [y])[j]? = l[j]? := List.getElem?_append_left h
theorem app_at {α : Type} {l : List (Option α)} {y : Option α} : (l ++ [y])[l.length]? = some y := by simp
theorem Sim.push (S : Sim K ca c M σ H e) {x : Addr} {ho : HO} {o : MO} (hx : H x = none) (mr : MRep K ca (hid (upd H x ho) (addM M x)) (upd H x ho) x o) : Sim K ca c (addM M x) (σ ++ [some (.ref x)]) (upd H x ho) (e ++ [some (.own o)]) := by
  have S' := S.allocA (o := ho) hx
  have far : ∀ {j : Nat} {s : Slot}, e[j]? = some (some s) → (s.chg = true ∨ s.pin = true) → σ[j]? = some (some (.ref x)) → False := fun h k z => by
    have w := (S.chg_at h k z).2
    rw [hx] at w
    cases w
  refine ⟨by simp [S.len], fun j s h => ?_, fun j k s t b h1 h2 k1 k2 q1 q2 => ?_, S'.ext, S'.frame, fun j s b h k q => ?_, fun p hp => ?_, S'.there, S'.cthere, S'.sub⟩
  · rcases app_get h with ⟨hj, h⟩ | ⟨rfl, hz⟩
    · obtain ⟨v, e2, r⟩ := S'.slot j s h
      exact ⟨v, by rw [app_lt (by rw [← S.len]; exact hj)]; exact e2, r⟩
    · cases hz
      exact ⟨.ref x, by rw [S.len]; exact app_at, x, rfl, .inr rfl, mr⟩
  · rcases app_get h1 with ⟨hj, h1⟩ | ⟨rfl, h1⟩ <;> rcases app_get h2 with ⟨hk, h2⟩ | ⟨rfl, h2⟩
    · rw [app_lt (by rw [← S.len]; exact hj)] at q1
      rw [app_lt (by rw [← S.len]; exact hk)] at q2
      exact S.inj j k s t b h1 h2 k1 k2 q1 q2
    · rw [app_lt (by rw [← S.len]; exact hj)] at q1
      rw [S.len, app_at] at q2
      cases q2
      exact (far h1 (.inl k1) q1).elim
    · rw [app_lt (by rw [← S.len]; exact hk)] at q2
      rw [S.len, app_at] at q1
      cases q1
      exact (far h2 k2 q2).elim
    · rfl
  · rcases app_get h with ⟨hj, h⟩ | ⟨rfl, h⟩
    · rw [app_lt (by rw [← S.len]; exact hj)] at q
      exact S.ownd j s b h k q
    · rw [S.len, app_at] at q
      cases q
      exact .inr (S.fresh0 hx)
  · obtain ⟨q1, s, q2, q3⟩ := S.par p hp
    have l1 := (List.getElem?_eq_some_iff.mp q1).1
    have l2 := (List.getElem?_eq_some_iff.mp q2).1
    exact ⟨by rw [app_lt l1]; exact q1, s, by rw [app_lt l2]; exact q2, q3⟩
theorem Sim.pop {x : Addr} {o : MO} (h0 : ¬ c.M0 x) (hl : e.length = σ.length) (S : Sim K ca c M (σ ++ [some (.ref x)]) H (e ++ [some (.own o)])) :
    Sim K ca c (subM M x) σ H e ∧ relV K ca c (subM M x) σ H e (.own o) (.ref x) ∧ Same (QB.hid H M) (QB.hid H (subM M x)) := by
  obtain ⟨v, e2, a, e3, ma, mr⟩ := S.slot e.length (.own o) app_at
  rw [hl, app_at] at e2
  cases e2
  cases e3
  have em : addM (subM M x) x = M := by
    funext b
    apply propext
    constructor
    · rintro (h | h)
      · exact h.1
      · rw [h]; exact ma
    · intro h
      by_cases hb : b = x
      · exact .inr hb
      · exact .inl ⟨h, hb⟩
  have sm : Same (QB.hid H M) (QB.hid H (subM M x)) := hid_less fun b z => z.1
  have lt : ∀ {j : Nat} {s : Slot}, e[j]? = some (some s) → j < e.length ∧ j < σ.length := fun h => by
    have := (List.getElem?_eq_some_iff.mp h).1
    exact ⟨this, by omega⟩
  have no : ∀ {j : Nat} {s : Slot} {b : Addr}, e[j]? = some (some s) → s.chg = true → σ[j]? = some (some (.ref b)) → b ≠ x := fun {j s b} h k q z => by
    subst z
    have l := lt h
    have := S.inj j e.length s (.own o) b (by rw [app_lt l.1]; exact h) app_at k (.inl rfl) (by rw [app_lt l.2]; exact q) (by rw [hl]; exact app_at)
    omega
  have core : ∀ {M2 : Addr → Prop}, (∀ b, M2 b → M b) → (∀ b, M b → b ≠ x → M2 b) → Sim K ca c M2 σ H e := fun {M2} i1 i2 => by
    have sm2 : Same (QB.hid H M) (QB.hid H M2) := hid_less i1
    refine ⟨hl, fun j s h => ?_, fun j k s t b h1 h2 k1 k2 q1 q2 => ?_, S.ext.trans sm2, fun b hb hn => ?_, fun j s b h k q => ?_, fun p hp => ?_, fun b hb => S.there b (i1 b hb), S.cthere, S.sub⟩
    · have l := lt h
      obtain ⟨v, w1, w2⟩ := S.slot j s (by rw [app_lt l.1]; exact h)
      rw [app_lt l.2] at w1
      refine ⟨v, w1, ?_⟩
      cases s with
      | val p => exact Rep.mono sm2 w2
      | exn x => exact XSl.mono sm2 w2
      | own m => obtain ⟨b, eb, mb, rr⟩ := w2; subst eb; exact ⟨b, rfl, i2 b mb (no h rfl w1), rr.mono sm2 rfl⟩
      | par m => obtain ⟨b, eb, mb, rr⟩ := w2; subst eb; exact ⟨b, rfl, i2 b mb (no h rfl w1), rr.mono sm2 rfl⟩
    · have l1 := lt h1
      have l2 := lt h2
      exact S.inj j k s t b (by rw [app_lt l1.1]; exact h1) (by rw [app_lt l2.1]; exact h2) k1 k2 (by rw [app_lt l1.2]; exact q1) (by rw [app_lt l2.2]; exact q2)
    · obtain ⟨w1, w2⟩ := S.frame b hb hn
      exact ⟨i2 b w1 fun z => h0 (by rw [← z]; exact hb), w2⟩
    · have l := lt h
      exact S.ownd j s b (by rw [app_lt l.1]; exact h) k (by rw [app_lt l.2]; exact q)
    · obtain ⟨w1, s, w2, w3⟩ := S.par p hp
      rcases app_get w2 with ⟨l1, w2⟩ | ⟨_, z⟩
      · rw [app_lt (by omega)] at w1
        exact ⟨w1, s, w2, w3⟩
      · cases z
        cases w3
  have S1 := core (M2 := subM M x) (fun b z => z.1) fun b z n => ⟨z, n⟩
  have S2 := core (M2 := M) (fun b z => z) fun b z _ => z
  refine ⟨S1, ⟨?_, x, rfl, fun z => z.2 rfl, by rw [em]; exact S2, by rw [em]; exact mr⟩, sm⟩
  have nm : ¬ subM M x x := fun z => z.2 rfl
  cases o with
  | lst xs => obtain ⟨vs, q, r⟩ := mr; exact ⟨x, vs, rfl, hid_of.mpr ⟨q, nm⟩, r.mono sm⟩
  | ins cc ks xs => obtain ⟨dx, fs, q, z, r⟩ := mr; exact ⟨x, dx, fs, rfl, hid_of.mpr ⟨q, nm⟩, z, r.mono sm⟩
  | dct ks xs => obtain ⟨kvs, q, z, r⟩ := mr; exact ⟨x, kvs, rfl, hid_of.mpr ⟨q, nm⟩, z, r.mono sm⟩
end
/-- C(..): the new object stands in one slot more -/
def popE (e : En) : Option (MO × En) := match e.reverse with
  | some (.own o) :: r => some (o, r.reverse)
  | _ => none
theorem popE_inv {e : En} {o : MO} {e0 : En} (h : popE e = some (o, e0)) : e = e0 ++ [some (.own o)] := by
  unfold popE at h
  split at h
  · rename_i o' r hr
    cases h
    have := congrArg List.reverse hr
    simpa using this
  · cases h
def makeE (F : FSem) (cn : Str) (as : Nat → List Opd) : EM RV := fun e => match callE F (as e.length) (e ++ [some (.own (.ins cn [] []))]) with
  | .ok (.val .non) e' => match popE e' with
    | some (o, e0) => if e0.length = e.length then .ok (.own o) e0 else .bad
    | none => .bad
  | .exc x e' => match popE e' with
    | some (_, e0) => if e0.length = e.length then .exc x e0 else .bad
    | none => .bad
  | _ => .bad
section
variable {ca : CA} {K : PySem.W.Frag} {c c0 : Fx} {M : Addr → Prop} {σ : St} {H : Hp} {e e1 : En} {W : WX}
theorem relOs_push {os : List Opd} {vs : List V} {H' : Hp} {M' : Addr → Prop} {y : Option V} (h : relOs K ca c0 M σ H e1 os vs) (sm : Same (QB.hid H M) (QB.hid H' M')) : relOs K ca c0 M' (σ ++ [y]) H' e1 os vs := by
  induction h with
  | nil => exact .nil
  | @cons o v os vs r t ih =>
    refine .cons ?_ ih
    cases o with
    | slot i =>
      have r' : σ[i]? = some (some v) := r
      show (σ ++ [y])[i]? = some (some v)
      rw [app_lt (List.getElem?_eq_some_iff.mp r').1]
      exact r'
    | pv p => exact Rep.mono sm r
theorem make_sp {n : Nat} {F : FSem} {cn : Str} {as : Nat → List Opd} {ws : List V} {Q : VK} {x dx : Addr} (h : RdAt K ca c (makeE F cn as) (relV K ca) W e σ Q) (S : Sim K ca c M σ H e) (hn : ws.length = n)
    (hx : H x = none) (hd : H dx = none) (hne : dx ≠ x)
    (r : ∀ {M' : Addr → Prop} {H' : Hp}, Same (QB.hid H M) (QB.hid H' M') → relOs K ca c0 M' (σ ++ [some (.ref x)]) H' e1 (as e.length) ws) : spF K ca n F ws (upd (upd H dx (.own x)) x (.ins (ca cn) dx [])) (fun v H2 => v = .non ∧ Q (.ref x) H2) (WE W σ) := by
  have S1 : Sim K ca c M σ (upd H dx (.own x)) e := S.alloc hd
  have hx1 : upd H dx (.own x) x = none := by rw [upd_ne (Ne.symm hne)]; exact hx
  have S2 := S1.push (ho := .ins (ca cn) dx []) (o := .ins cn [] []) hx1 ⟨dx, [], upd_same, rfl, rfl⟩
  have n0 : ¬ c.M0 x := S.fresh0 hx
  have sm : Same (QB.hid H M) (QB.hid (upd (upd H dx (.own x)) x (.ins (ca cn) dx [])) (addM M x)) := (same_upd hd).trans (same_updA hx1)
  have r2 := r sm
  have key : RdAt K ca c (callE F (as e.length)) (relV K ca) (fun cls d _ H' => W cls d σ H') (e ++ [some (.own (.ins cn [] []))]) (σ ++ [some (.ref x)]) (fun v H2 => v = .non ∧ Q (.ref x) H2) := by
    unfold RdAt makeE at h
    unfold RdAt
    cases z : callE F (as e.length) (e ++ [some (.own (.ins cn [] []))]) with
    | bad => simp only [z] at h
    | exc y e' =>
      simp only [z] at h
      cases zp : popE e' with
      | none => simp only [zp] at h
      | some q =>
        obtain ⟨o, e0⟩ := q
        simp only [zp] at h
        by_cases hl : e0.length = e.length
        · simp only [if_pos hl] at h
          have := popE_inv zp
          subst this
          intro cls d H' M' S' xr
          obtain ⟨P1, P2, P3⟩ := Sim.pop n0 (hl.trans S.len) S'
          exact h cls d H' _ P1 (xr.mono P3)
        · simp only [if_neg hl] at h
    | ok rv e' =>
      cases rv with
      | own o => simp only [z] at h
      | val p =>
        cases p <;> simp only [z] at h <;> try exact h.elim
        cases zp : popE e' with
        | none => simp only [zp] at h
        | some q =>
          obtain ⟨o, e0⟩ := q
          simp only [zp] at h
          by_cases hl : e0.length = e.length
          · simp only [if_pos hl] at h
            have := popE_inv zp
            subst this
            intro b H' M' S' rr
            obtain ⟨P1, P2, P3⟩ := Sim.pop n0 (hl.trans S.len) S'
            exact ⟨rr.1, h (.ref x) H' _ P1 P2⟩
          · simp only [if_neg hl] at h
  have k := call_sp (n := n) key S2 r2 hn
  exact k
end
end QB

namespace QB
open PySem L2
/-! ### C(..) -/
section
variable {rp : Bool} {X : Cx} {k n : Nat} {f C : Addr} {fd : FuncData} {ps ks : List Str} {sp : Sp} {E : St → XK} {x : Str} {p pos : Pos} {es : List Expr} {kws : List Keyword} {ta : TE} {t tk : TA} {g : List Value → List Value → List Value} {gV : List V → List V → List V}
theorem run_makeG {pins : List (Addr × Obj)} {σ : St} {H : Hp} {s : Shared} {Q : VK} {us ws : List Value} {vs zs : List V} (M : Mk X.K C f) (F : FnR rp X.prog X.w X.K X.mg X.base k f fd ps sp) (hgd : rp = true → X.A.guards = some []) (hr : Room (k + 1) X.A) (hb : KBn X.K fd ps (n + 1) ks g gV)
    (hx : PassesAt (L2.CX X.prog X.w) X σ (E σ)) (J : Inv X pins σ H s) (r : Vals vs us) (rz : Vals zs ws) (l1 : vs.length = n) (l2 : zs.length = ks.length)
    (h : ∀ y dy, H y = none → H dy = none → dy ≠ y → sp (gV (.ref y :: vs) zs) (upd (upd H dy (.own y)) y (.ins C dy [])) (fun v H2 => v = .non ∧ Q (.ref y) H2) (E σ)) :
    wpAny (model X.prog X.w) X.A (call (.ref C) us (ks.zip ws)) (EP X pins σ Q) X.xe s := by
  have hp := h (s.heap.objs.size + 1) s.heap.objs.size (J.hok.fresh (Nat.le_succ _)) (J.hok.fresh (Nat.le_refl _)) (Nat.ne_of_lt (Nat.lt_succ_self _))
  have J2 := J.made (C := C)
  have rs : Vals (V.ref (s.heap.objs.size + 1) :: vs) (Value.ref (s.heap.objs.size + 1) :: us) := .cons rfl r
  have k1 : (Value.ref (s.heap.objs.size + 1) :: us).length = n + 1 := rs.length.symm.trans (congrArg Nat.succ l1)
  have k2 : ws.length = ks.length := rz.length.symm.trans l2
  have go := F.run (X.A.under (.builtin "type.__call__" ⟨.ref C :: us, ks.zip ws⟩)) X.stack _ _ ⟨Value.ref (s.heap.objs.size + 1) :: us, ks.zip ws⟩ (g (Value.ref (s.heap.objs.size + 1) :: us) ws) _ _ (E σ) hgd (hr.make C us (ks.zip ws)) (J2.env0.make C us (ks.zip ws)) (hb.to _ _ ws J2.kIn k1 k2) (hb.rel rs rz) hp
  refine wpAny_call (make_map (f := f) J.kIn M.makes M.init (beq_iff_eq.mp M.fn) (codeAny_mono go fun res s' hs => ?_))
  cases res with
  | error er => exact hx pins _ _ er s' J2 hs
  | ok fl =>
    cases fl with
    | ret u =>
      obtain ⟨v, H', J3, rv, ev, q3⟩ := J2.after hs
      subst ev
      exact ⟨rv, ⟨V.ref (s.heap.objs.size + 1), H', J3, rfl, q3⟩⟩
    | next => exact False.elim hs
    | brk => exact False.elim hs
    | cont => exact False.elim hs
def MkOk (rp : Bool) (X : Cx) (C : Addr) (n : Nat) (ks : List Str) (sp : Sp) (gV : List V → List V → List V) : Prop :=
  ∃ f fd ps k g, Mk X.K C f ∧ FnR rp X.prog X.w X.K X.mg X.base k f fd ps sp ∧ Room (k + 1) X.A ∧ KBn X.K fd ps (n + 1) ks g gV
def tMakeG (rp : Bool) (X : Cx) (n : Nat) (ks : List Str) (E : St → XK) (ta : TE) (t tk : TA) : TE := fun σ H Q => ta σ H fun x H1 => ∃ C sp gV, x = .ref C ∧ MkOk rp X C n ks sp gV ∧
  t σ H1 fun vs H2 => tk σ H2 fun zs H3 => vs.length = n ∧ zs.length = ks.length ∧ ∀ y dy, H3 y = none → H3 dy = none → dy ≠ y → sp (gV (.ref y :: vs) zs) (upd (upd H3 dy (.own y)) y (.ins C dy [])) (fun v H4 => v = .non ∧ Q (.ref y) H4) (E σ)
theorem pe_makeG {a : Expr} (hgd : rp = true → X.A.guards = some []) (he : PE X (.Name x p) ta) (ha : PA X (a :: es) t) (hk : PK X kws tk) (hx : ∀ σ, PassesAt (L2.CX X.prog X.w) X σ (E σ))
    (hs : noStars (a :: es) = true) (hq : ∀ q ∈ kws, q.arg.isSome = true) (hks : kws.filterMap (·.arg) = ks) : PE X (.Call (.Name x p) (a :: es) kws pos) (tMakeG rp X n ks E ta t tk) := by
  refine ⟨fun pins s σ H Q J hh => ?_⟩
  obtain ⟨k1, k2, k3⟩ := kwAll (pos := pos) (env := X.env) hq
  refine wpAny_Call_Name_kw (thn (he.run pins s σ H _ J hh) fun u s1 ⟨v, H1, J1, rv, C, sp, gV, ev, ok, q⟩ => ?_)
  subst ev
  obtain rfl : u = Value.ref C := rv
  obtain ⟨f, fd, ps, k, g, M, F, hr, kb⟩ := ok
  have hs' := hs
  unfold noStars at hs'
  rw [List.all_cons, Bool.and_eq_true] at hs'
  have hst := star_cons (es := es) (env := X.env) (show isStar a = false by simpa using hs'.1)
  refine PySem.W.callWith_KW (h₀ := X.base) J.ok.mod.kin M.kp k1 (thn (ha.run pos pins s1 σ H1 _ J1 q) fun us s2 ⟨vs, H2, J2, r, q2⟩ => ?_) (by rw [noStars_any hs, k2]; rfl) hst
  refine thn (hk.run pos pins s2 σ H2 _ J2 q2) fun ws s3 ⟨zs, H3, J3, rz, l1, l2, q3⟩ => ⟨J3.kIn, ?_⟩
  rw [k3, hks]
  exact run_makeG M F hgd hr kb (hx σ) J3 r rz l1 l2 q3
theorem pe_makeG0 (hgd : rp = true → X.A.guards = some []) (he : PE X (.Name x p) ta) (hk : PK X kws tk) (hx : ∀ σ, PassesAt (L2.CX X.prog X.w) X σ (E σ))
    (hq : ∀ q ∈ kws, q.arg.isSome = true) (hks : kws.filterMap (·.arg) = ks) : PE X (.Call (.Name x p) [] kws pos) (tMakeG rp X 0 ks E ta tNil tk) := by
  refine ⟨fun pins s σ H Q J hh => ?_⟩
  obtain ⟨k1, k2, k3⟩ := kwAll (pos := pos) (env := X.env) hq
  refine wpAny_Call_Name_kw (thn (he.run pins s σ H _ J hh) fun u s1 ⟨v, H1, J1, rv, C, sp, gV, ev, ok, q⟩ => ?_)
  subst ev
  obtain rfl : u = Value.ref C := rv
  obtain ⟨f, fd, ps, k, g, M, F, hr, kb⟩ := ok
  refine PySem.W.callWith_KW0 (first := []) (h₀ := X.base) J.ok.mod.kin M.kp k1 ?_ (by rw [k2]; rfl)
  refine thn (hk.run pos pins s1 σ H1 _ J1 q) fun ws s3 ⟨zs, H3, J3, rz, l1, l2, q3⟩ => ⟨J3.kIn, ?_⟩
  rw [k3, hks]
  exact run_makeG (us := []) (vs := []) M F hgd hr kb (hx σ) J3 .nil rz l1 l2 q3
end
/-! ### .. by values -/
/-- a class that is called -/
def MethE.MkOk (X : Cx) (ca : CA) (lvl : Nat) (M : MethE) : Prop := ∃ f fd k, k + 1 ≤ lvl ∧ Mk X.K (ca M.cls) f ∧
  FnR false X.prog X.w X.K X.mg X.base k f fd M.E.ps (spF X.K ca M.E.ps.length M.E.sem) ∧ ∀ s ∈ M.E.shapes, ShapeOk X.K ca fd M.E.ps s
def makeS (F : FSem) (np : Nat) (s : Shape) (cn : Str) (os zs : List Opd) : EM RV :=
  if decide (os.length + 1 = s.n ∧ zs.length = s.ks.length ∧ (pick s.src (.slot 0 :: os) zs (s.dfl.map .pv)).length = np) then makeE F cn fun i => pick s.src (.slot i :: os) zs (s.dfl.map .pv) else EM.bad
def makeK (tbl : List MethE) (n : Nat) (ks : List Str) (ms mk : EM (List Opd)) : PV → EM RV
  | .cls c => match findM tbl c "__init__" (n + 1) ks with
    | some (e, s) => ms.bind fun os => mk.bind fun zs => makeS e.E.sem e.E.ps.length s c os zs
    | none => EM.bad
  | _ => EM.bad
def makeM (tbl : List MethE) (n : Nat) (ks : List Str) (mo : EM Opd) (ms mk : EM (List Opd)) : EM RV := mo.bind fun o => (lookM o).bind fun p => makeK tbl n ks ms mk p
theorem pickLen {α β : Type} {src : List Src} {us ws ds : List α} {vs zs es : List β} (h1 : us.length = vs.length) (h2 : ws.length = zs.length) (h3 : ds.length = es.length) : (pick src us ws ds).length = (pick src vs zs es).length := by
  have pr : ∀ {as : List α} {bs : List β}, as.length = bs.length → Paired (fun _ _ => True) as bs := by
    intro as
    induction as with
    | nil => intro bs h; cases bs with
      | nil => exact .nil
      | cons _ _ => cases h
    | cons a as ih => intro bs h; cases bs with
      | nil => cases h
      | cons b bs => exact .cons trivial (ih (by simpa using h))
  exact pairedLen (pick_paired (R := fun _ _ => True) (pr h1) (pr h2) (pr h3) src)
section
variable {rp : Bool} {X : Cx} {ca : CA} {lvl : Nat} {tbl : List MethE} {x : Str} {p pos : Pos} {es : List Expr} {kws : List Keyword} {mo : EM Opd} {ms mk : EM (List Opd)}
theorem make_sem {W : WX} {σ : St} {H : Hp} {Q : VK} {n : Nat} {ks : List Str} (ok : ∀ e ∈ tbl, e.E.name = "__init__" → e.MkOk X ca lvl) (hr : Room lvl X.A) (h : Rd X.K ca (makeM tbl n ks mo ms mk) (relV X.K ca) W σ H Q) :
    tMakeG false X n ks (WE W) (Rd X.K ca mo (relO X.K ca) W) (Rd X.K ca ms (relOs X.K ca) W) (Rd X.K ca mk (relOs X.K ca) W) σ H Q := by
  obtain ⟨c, M, e, S, q⟩ := h
  refine RdAt.bind q S fun o v H1 M1 e1 S1 _ _ r q1 => ?_
  obtain ⟨p, hlk, rp', q2⟩ := q1.lookM S1 r
  clear hlk
  cases p <;> first | exact False.elim q2 | skip
  case cls cn =>
    unfold makeK at q2
    dsimp only at q2
    cases z1 : findM tbl cn "__init__" (n + 1) ks with
    | none => simp only [z1] at q2; exact False.elim q2
    | some es' =>
      obtain ⟨E, s⟩ := es'
      simp only [z1] at q2
      obtain ⟨h1, h2, h3, h4, h5, h6⟩ := findM_inv z1
      cases rp'
      obtain ⟨f, fd, k, kl, mk', F, sh⟩ := ok E h1 h3
      obtain ⟨dvs, its, hd, hb⟩ := sh s h4
      rw [h2] at mk'
      rw [h5, h6] at hb
      refine ⟨ca cn, _, _, rfl, ⟨f, fd, E.E.ps, k, _, mk', F, hr.mono kl, hb⟩, ?_⟩
      refine RdAt.bind q2 S1 fun os vs H2 M2 e2 S2 sm2 _ r2 q3 => ?_
      refine RdAt.bind q3 S2 fun zs ws H3 M3 e3 S3 sm3 _ r3 q4 => ?_
      unfold makeS at q4
      obtain ⟨hz, q5⟩ := RdAt.ite q4
      obtain ⟨g1, g2, g3⟩ := of_decide_eq_true hz
      have r2' := relOs.mono (e' := e3) (c' := c) r2 sm3
      have r3' := relOs.mono (e' := e3) (c' := c) r3 (Same.refl _)
      have l2 := pairedLen r2'
      have l3 := pairedLen r3'
      have l4 := pairedLen hd
      refine ⟨by omega, by rw [← l3, g2, h6], fun y dy hy hdy hne => ?_⟩
      refine make_sp (c0 := c) (e1 := e3) q5 S3 ?_ hy hdy hne fun {M' H'} sm => ?_
      · rw [← g3]
        exact (pickLen (by simp [l2]) l3 (by simp [l4])).symm
      · have rs : relOs X.K ca c M' (σ ++ [some (.ref y)]) H' e3 (.slot e3.length :: os) (.ref y :: vs) := .cons (by show (σ ++ [some (V.ref y)])[e3.length]? = _; rw [S3.len]; exact app_at) (relOs_push r2' sm)
        have rd : relOs X.K ca c M' (σ ++ [some (.ref y)]) H' e3 (s.dfl.map .pv) dvs := by
          have go : ∀ {ps : List PV} {vs : List V}, Paired (fun p v => KRep X.K ca p v) ps vs → relOs X.K ca c M' (σ ++ [some (.ref y)]) H' e3 (ps.map .pv) vs := by
            intro ps vs hp
            induction hp with
            | nil => exact .nil
            | cons r t ih => exact .cons (r _) ih
          exact go hd
        exact pick_paired rs (relOs_push r3' sm) rd s.src
theorem je_make {a : Expr} (ok : ∀ e ∈ tbl, e.E.name = "__init__" → e.MkOk X ca lvl) (hr : Room lvl X.A) (hs : noStars (a :: es) = true) (hq : ∀ q ∈ kws, q.arg.isSome = true) (ho : JO X ca mo (.Name x p)) (ha : JA X ca ms (a :: es)) (hk : JK X ca mk kws) :
    JE X ca (makeM tbl (a :: es).length (kws.filterMap (·.arg)) mo ms mk) (.Call (.Name x p) (a :: es) kws pos) := fun W tk =>
  PE.imp (pe_makeG (rp := false) (n := (a :: es).length) (fun z => by cases z) (ho W tk) (ha W tk) (hk W tk) (fun σ => passAt tk σ) hs hq rfl) fun σ H Q h => make_sem ok hr h
theorem je_make0 (ok : ∀ e ∈ tbl, e.E.name = "__init__" → e.MkOk X ca lvl) (hr : Room lvl X.A) (hq : ∀ q ∈ kws, q.arg.isSome = true) (ho : JO X ca mo (.Name x p)) (hk : JK X ca mk kws) :
    JE X ca (makeM tbl 0 (kws.filterMap (·.arg)) mo opdsNil mk) (.Call (.Name x p) [] kws pos) := fun W tk =>
  PE.imp (pe_makeG0 (rp := false) (fun z => by cases z) (ho W tk) (hk W tk) (fun σ => passAt tk σ) hq rfl) fun σ H Q h => by
    have h2 := make_sem (n := 0) ok hr h
    exact Rd.mono h2 fun v H1 ⟨C, sp, gV, h1, h2, h3⟩ => ⟨C, sp, gV, h1, h2, Rd.nil h3⟩
end
/-! ### o.f: fields, properties -/
def noatT (fq : List Fq) (c f : Str) : Bool := fq.any fun q => match q with
  | .noat c' f' => c' == c && f' == f
  | _ => false
theorem noatT_ok {K : PySem.W.Frag} {ca : CA} {fq : List Fq} (F : FqOk K ca fq) {c f : Str} (h : noatT fq c f = true) : Cls K (ca c) ∧ NoAttr K (ca c) f := by
  obtain ⟨q, hq, hr⟩ := List.any_eq_true.mp h
  cases q with
  | noat c' f' =>
    dsimp only at hr
    obtain ⟨h1, h2⟩ := and2 hr
    have e1 := beq_iff_eq.mp h1
    have e2 := beq_iff_eq.mp h2
    subst e1 e2
    obtain ⟨k1, k2⟩ := and2 (F.ok _ hq)
    rw [F.at_]
    exact ⟨(insB_ok k1).1, eqB_ok k2⟩
  | _ => cases hr
/-- a property -/
def MethE.PrOk (X : Cx) (ca : CA) (lvl : Nat) (M : MethE) : Prop := ∃ g fd k p, k + 1 ≤ lvl ∧ Cls X.K (ca M.cls) ∧ PropOf X.K (ca M.cls) M.E.name p g ∧
  FnR false X.prog X.w X.K X.mg X.base k g fd M.E.ps (spF X.K ca M.E.ps.length M.E.sem) ∧ M.E.ps.length = 1 ∧ ∀ (s : Shared) (u : Value), BindsTo s fd ⟨[u], []⟩ (M.E.ps.zip [u])
section
variable {X : Cx} {ca : CA} {fq : List Fq} {lvl : Nat} {prs : List MethE} {pos : Pos} {o : Expr} {f : Str} {mo : EM Opd}
theorem getprop_G {k : Nat} {C p g a dx : Addr} {fs : List (Str × V)} {fd : FuncData} {ps : List Str} {sp : Sp} {pins : List (Addr × Obj)} {σ : St} {H : Hp} {s : Shared} {Q : VK} {b : Bool} {E' : Value → Shared → Prop} (J : Inv X pins σ H s) (ea : H a = some (.ins C dx fs)) (c : Cls X.K C) (hp : PropOf X.K C f p g)
    (F : FnR false X.prog X.w X.K X.mg X.base k g fd ps sp) (hr : Room (k + 1) X.A) (hb : ∀ (s : Shared) (u : Value), BindsTo s fd ⟨[u], []⟩ (ps.zip [u])) (h : sp [.ref a] H Q (fun _ _ _ => False)) :
    wpAny (model X.prog X.w) X.A (getAttr (.ref a) f b) (EP X pins σ Q) E' s := by
  obtain ⟨mA, O, _, _, _, _⟩ := ins_get J.hok ea
  obtain ⟨od, L, _⟩ := O.look
  obtain ⟨rest, hrec⟩ := hp.rec_
  have J1 := J.tok (s.toks + 1)
  obtain ⟨cd, hcd, _⟩ := PySem.W.any_some c.hd
  have hc : (PySem.W.clsIn X.K C).isSome = true := by rw [hcd]; rfl
  have go := F.run X.A.in1 X.stack { s with toks := s.toks + 1 } H ⟨[.ref a], []⟩ [.ref a] [.ref a] Q (fun _ _ _ => False) (fun z => by cases z) hr.in1 J1.env0.in1 (hb _ _) (.cons rfl .nil) h
  refine PySem.W.get_bind J.kIn L (PySem.W.plainGet_of (c.get f)).1 (PySem.W.findObj_data hc hp.at_ hp.get hp.tak) (PySem.W.plainGet_of (c.get f)).2 (wpAny_call (PySem.W.prop_get (s := { s with toks := s.toks + 1 }) J.kIn hrec (codeAny_mono go fun res s' hs => ?_)))
  cases res with
  | error er =>
    obtain ⟨_, _, _, _, _, _, _, _, _, _, _, _, z⟩ := hs
    exact z.elim
  | ok fl =>
    cases fl with
    | ret u =>
      obtain ⟨v, H', J3, rv, q3⟩ := J1.after hs
      show wpAny _ _ (handedOut u) _ _ _
      rw [PySem.W.handedOut_of (handed_of rv)]
      exact wpAny_pure ⟨v, H', J3, rv, q3⟩
    | next => exact False.elim hs
    | brk => exact False.elim hs
    | cont => exact False.elim hs
/-- .. by its promise -/
def PrSp (X : Cx) (C : Addr) (f : Str) (sp : Sp) : Prop := ∃ p g fd ps k, Cls X.K C ∧ PropOf X.K C f p g ∧ FnR false X.prog X.w X.K X.mg X.base k g fd ps sp ∧ Room (k + 1) X.A ∧ ∀ (s : Shared) (u : Value), BindsTo s fd ⟨[u], []⟩ (ps.zip [u])
def tAttr (X : Cx) (f : Str) (ta : TE) : TE := fun σ H Q => ta σ H fun x H1 => ∃ a C dx fs, x = .ref a ∧ H1 a = some (.ins C dx fs) ∧ ((∃ v, Cls X.K C ∧ NoAttr X.K C f ∧ fs.lookup f = some v ∧ Q v H1) ∨ ∃ sp, PrSp X C f sp ∧ sp [.ref a] H1 Q (fun _ _ _ => False))
theorem pe_attr {ta : TE} (he : PE X o ta) (hb : attributeBase o f X.env (eval o X.env) = eval o X.env) : PE X (.Attribute o f pos) (tAttr X f ta) := by
  refine ⟨fun pins s σ H Q J h => ?_⟩
  refine attr_of hb (thn (he.run pins s σ H _ J h) fun u s1 ⟨x, H1, J1, rx, a, C, dx, fs, ex, ea, q⟩ => ?_)
  subst ex
  obtain rfl : u = Value.ref a := rx
  rcases q with ⟨v, c, n, l, q⟩ | ⟨sp, ⟨p, g, fd, ps, k, c, hp, F, hr, hb⟩, q⟩
  · exact getattr_ok J1 ea c n l fun u' s2 J2 ru => ⟨v, H1, J2, ru, q⟩
  · exact getprop_G J1 ea c hp F hr hb q
def fldP (fq : List Fq) (f : Str) : PV → Option PV
  | .ins c ks xs => if noatT fq c f then (ks.zip xs).lookup f else none
  | _ => none
def findP (prs : List MethE) (c f : Str) : Option MethE := prs.find? (fun e => e.cls == c && e.E.name == f)
def attrK (fq : List Fq) (prs : List MethE) (f : Str) (od : Opd) : PV → EM RV
  | .ins c ks xs => if noatT fq c f then (EM.opt ((ks.zip xs).lookup f)).bind fun p => EM.ret (.val p) else match findP prs c f with
    | some e => (callE e.E.sem [od]).calm
    | none => EM.bad
  | _ => EM.bad
def attrM (fq : List Fq) (prs : List MethE) (f : Str) (mo : EM Opd) : EM RV := mo.bind fun od => (lookM od).bind fun p => attrK fq prs f od p
theorem RdAt.calm {α β : Type} {K : PySem.W.Frag} {c : Fx} {m : EM α} {rel : RelT α β} {W W' : WX} {e : En} {σ : St} {Q : β → Hp → Prop} (h : RdAt K ca c m.calm rel W e σ Q) : RdAt K ca c m rel W' e σ Q := by
  unfold RdAt EM.calm at h
  unfold RdAt
  cases z : m e with
  | ok a e' => rw [z] at h; exact h
  | exc x e' => simp only [z] at h
  | bad => simp only [z] at h
theorem je_attr (F : FqOk X.K ca fq) (ok : ∀ e ∈ prs, e.PrOk X ca lvl) (hr : Room lvl X.A) (hb : attributeBase o f X.env (eval o X.env) = eval o X.env) (ho : JO X ca mo o) : JE X ca (attrM fq prs f mo) (.Attribute o f pos) := fun W tk =>
  PE.imp (pe_attr (ho W tk) hb) fun σ H Q ⟨c, M, e, S, q⟩ => RdAt.bind q S fun od v H1 M1 e1 S1 _ _ r q1 => by
    obtain ⟨p, hlk, rp, q2⟩ := q1.lookM S1 r
    clear hlk
    cases p <;> first | exact False.elim q2 | skip
    case ins cn ks xs =>
      unfold attrK at q2
      dsimp only at q2
      obtain ⟨a, dx, fs, rfl, ha, hk, ra⟩ := rp
      refine ⟨a, ca cn, dx, fs, rfl, ha, ?_⟩
      split at q2
      · rename_i hn
        obtain ⟨c1, c2⟩ := noatT_ok F hn
        obtain ⟨y, hy, q3⟩ := RdAt.optB q2
        obtain ⟨w, h1, h2⟩ := fld_rep hk ra hy
        exact .inl ⟨w, c1, c2, h1, q3.ret S1 ⟨h2, trivial⟩⟩
      · cases z : findP prs cn f with
        | none => simp only [z] at q2; exact False.elim q2
        | some E =>
          simp only [z] at q2
          have w := List.find?_some z
          obtain ⟨w1, w2⟩ := and2 w
          have e1' := beq_iff_eq.mp w1
          have e2' := beq_iff_eq.mp w2
          obtain ⟨g, fd, k, p, kl, cl, pr, FN, hl, hbn⟩ := ok E (List.mem_of_find?_eq_some z)
          rw [e1'] at cl pr
          rw [e2'] at pr
          exact .inr ⟨_, ⟨p, g, fd, _, k, cl, pr, FN, hr.mono kl, hbn⟩, call_sp (c0 := c) (e1 := e1) (RdAt.calm (W' := fun _ _ _ _ => False) q2) S1 (.cons (relO.mono r (Same.refl _)) .nil) (by rw [hl]; rfl)⟩
/-! ### self.f = v -/
def putKs (f : Str) (ks : List Str) : List Str := if ks.contains f then ks else ks ++ [f]
def putXs (f : Str) (p : PV) : List Str → List PV → List PV
  | k :: ks, x :: xs => if k = f then p :: xs else x :: putXs f p ks xs
  | _, xs => xs ++ [p]
theorem putF_keys (f : Str) (v : V) : ∀ fs : List (Str × V), (putF f v fs).map (·.1) = putKs f (fs.map (·.1))
  | [] => rfl
  | (g, x) :: r => by
    have ih := putF_keys f v r
    unfold putKs at ih ⊢
    simp only [List.map_cons, putF]
    by_cases h : g = f
    · subst h
      simp
    · have hb : (f == g) = false := beq_eq_false_iff_ne.mpr (Ne.symm h)
      simp only [if_neg h, List.map_cons, ih, List.contains_cons, hb, Bool.false_or]
      split <;> rfl
theorem putF_reps {K : PySem.W.Frag} {G : Hp} {f : Str} {p : PV} {v : V} (rp : Rep K ca G p v) : ∀ {fs : List (Str × V)} {xs : List PV}, Reps K ca G xs (fs.map (·.2)) → Reps K ca G (putXs f p (fs.map (·.1)) xs) ((putF f v fs).map (·.2))
  | [], xs, h => by
    have : xs = [] := by
      cases xs with
      | nil => rfl
      | cons x xs => obtain ⟨_, _, e, _⟩ := h; cases e
    subst this
    exact ⟨v, [], rfl, rp, rfl⟩
  | (g, x) :: r, xs, h => by
    cases xs with
    | nil => cases h
    | cons y ys =>
      obtain ⟨w, ws, e, h1, h2⟩ := h
      simp only [List.map_cons, List.cons.injEq] at e
      obtain ⟨rfl, rfl⟩ := e
      simp only [List.map_cons, putF, putXs]
      by_cases hg : g = f
      · simp only [if_pos hg, List.map_cons]
        exact ⟨v, _, rfl, rp, h2⟩
      · simp only [if_neg hg, List.map_cons]
        exact ⟨x, _, rfl, h1, putF_reps rp h2⟩
def insAt (i : Nat) (e : En) : Option (Slot × Str × List Str × List PV) := match e[i]? with
  | some (some s) => match s.mo with
    | some (.ins c ks xs) => some (s, c, ks, xs)
    | _ => none
  | _ => none
theorem insAt_inv {i : Nat} {e : En} {s : Slot} {c : Str} {ks : List Str} {xs : List PV} (h : insAt i e = some (s, c, ks, xs)) : e[i]? = some (some s) ∧ s.mo = some (.ins c ks xs) := by
  unfold insAt at h
  cases q : e[i]? with
  | none => simp only [q] at h; cases h
  | some z =>
    cases z with
    | none => simp only [q] at h; cases h
    | some t =>
      simp only [q] at h
      cases z2 : t.mo with
      | none => simp only [z2] at h; cases h
      | some m =>
        cases m with
        | ins c' ks' xs' => simp only [z2] at h; cases h; exact ⟨rfl, z2⟩
        | lst _ => simp only [z2] at h; cases h
        | dct _ _ => simp only [z2] at h; cases h
def stoM (fq : List Fq) (i : Nat) (f : Str) (mv : EM RV) : SM := thenS mv fun r e => match insAt i e with
  | some (s, c, ks, xs) => if noatT fq c f && decide (ks.length < 1000) then .nx (e.set i (some (s.put (.ins c (putKs f ks) (putXs f r.pv ks xs))))) else .bad
  | none => .bad
theorem js_sto {x : Str} {px pos' : Pos} {a : Expr} {i : Nat} {mv : EM RV} (F : FqOk X.K ca fq) (hN : X.N[i]? = some x) (hv : Vis X.env.scope x) (hd : (x == ("__debug__" : Str)) = false) (hcd : (x == ("__classdict__" : Str)) = false) (hc : isComp a = false) (h : JE X ca mv a) :
    JS X ca (stoM fq i f mv) (.Assign [.Attribute (.Name x px) f pos'] a pos) := fun W tk =>
  PS.imp (ps_fld (pe_var hN hv hd hcd) (h W tk) (swaps_none hc)) fun D σ H ⟨c, M, e, S, q⟩ => SRdAt.thenS q S fun r v H1 M1 e1 S1 _ rr q1 => by
    unfold SRdAt at q1
    dsimp only at q1
    cases z : insAt i e1 with
    | none => simp only [z] at q1
    | some w =>
      obtain ⟨s, cn, ks, xs⟩ := w
      simp only [z] at q1
      obtain ⟨h1, h2⟩ := insAt_inv z
      obtain ⟨a, ha, Ma, dx, fs, hH, hk, rk⟩ := S1.objAt h1 h2
      cases zc : (noatT fq cn f && decide (ks.length < 1000)) with
      | false => simp only [zc, Bool.false_eq_true, if_false] at q1
      | true =>
        simp only [zc, if_true] at q1
        obtain ⟨w1, w2⟩ := and2 zc
        obtain ⟨c1, c2⟩ := noatT_ok F w1
        refine ⟨_, ha, a, ca cn, dx, fs, rfl, hH, c1, c2, ?_, ?_⟩
        · have := of_decide_eq_true w2
          rw [← hk, List.length_map] at this
          exact this
        · have S2 := S1.mutate (m' := .ins cn (putKs f ks) (putXs f r.pv ks xs)) (o' := .ins (ca cn) dx (putF f v fs)) h1 h2 ha ⟨dx, putF f v fs, upd_same, by rw [putF_keys, hk], by
            have := putF_reps (f := f) rr.1 rk
            rw [hk] at this
            exact this.mono (same_updM Ma)⟩
          exact q1 _ _ M1 S2
end
end QB

namespace QB
open PySem L2
/-! ### C.m(..): class methods -/
section
variable {X : Cx} {n : Nat} {ks : List Str} {E : St → XK} {m : Str} {p pos apos : Pos} {o : Expr} {es : List Expr} {kws : List Keyword} {ta : TE} {t tk : TA}
def CmSp (X : Cx) (C : Addr) (m : Str) (n : Nat) (ks : List Str) (sp : Sp) (gV : List V → List V → List V) : Prop :=
  ∃ q g fd ps k b, ClX.CRead X.K C (.type "type") ∧ ClX.CMet X.K C (.type "type") m q g ∧ FnR false X.prog X.w X.K X.mg X.base k g fd ps sp ∧ Room k X.A ∧ KBn X.K fd ps n ks b gV
def tCmG (X : Cx) (m : Str) (n : Nat) (ks : List Str) (E : St → XK) (ta : TE) (t tk : TA) : TE := fun σ H Q => ta σ H fun x H1 => ∃ C sp gV, x = .ref C ∧ CmSp X C m n ks sp gV ∧
  t σ H1 fun vs H2 => tk σ H2 fun zs H3 => vs.length + 1 = n ∧ zs.length = ks.length ∧ sp (gV (.ref C :: vs) zs) H3 Q (E σ)
theorem run_cmG {C g q : Addr} {fd : FuncData} {ps : List Str} {k : Nat} {sp : Sp} {b : List Value → List Value → List Value} {gV : List V → List V → List V} {pins : List (Addr × Obj)} {σ : St} {H : Hp} {s : Shared} {Q : VK} {us ws : List Value} {vs zs : List V}
    (F : FnR false X.prog X.w X.K X.mg X.base k g fd ps sp) (hr : Room k X.A) (hb : KBn X.K fd ps n ks b gV) (hx : PassesAt (L2.CX X.prog X.w) X σ (E σ)) (J : Inv X ((q, PySem.W.methodObj (.ref g) (.ref C)) :: pins) σ H s) (r : Vals vs us) (rz : Vals zs ws) (l1 : vs.length + 1 = n) (l2 : zs.length = ks.length)
    (h : sp (gV (.ref C :: vs) zs) H Q (E σ)) : wpAny (model X.prog X.w) X.A (call (.ref q) us (ks.zip ws)) (EP X pins σ Q) X.xe s := by
  have rs : Vals (V.ref C :: vs) (Value.ref C :: us) := .cons rfl r
  have k1 : (Value.ref C :: us).length = n := rs.length.symm.trans l1
  have go := F.run X.A X.stack s H ⟨.ref C :: us, ks.zip ws⟩ _ _ Q (E σ) (fun z => by cases z) hr J.env0 (hb.to s (.ref C :: us) ws J.kIn k1 (rz.length.symm.trans l2)) (hb.rel rs rz) h
  refine wpAny_call (PySem.W.method_call (ClX.pin_at J) (codeAny_mono go fun res s' hs => ?_))
  cases res with
  | error er => exact hx _ H s er s' J hs
  | ok fl =>
    cases fl with
    | ret u => exact ClX.unpinE (J.after hs)
    | next => exact False.elim hs
    | brk => exact False.elim hs
    | cont => exact False.elim hs
theorem pe_cmG {a : Expr} (he : PE X o ta) (ha : PA X (a :: es) t) (hk : PK X kws tk) (hx : ∀ σ, PassesAt (L2.CX X.prog X.w) X σ (E σ)) (hb : attributeBase o m X.env (eval o X.env) = eval o X.env) (hl : (apos.endLine == pos.line) = true)
    (hs : noStars (a :: es) = true) (hq : ∀ q ∈ kws, q.arg.isSome = true) (hks : kws.filterMap (·.arg) = ks) (hn : (a :: es).length + kws.length + 1 < 30) : PE X (.Call (.Attribute o m apos) (a :: es) kws pos) (tCmG X m n ks E ta t tk) := by
  refine ⟨fun pins s σ H Q J h => ?_⟩
  obtain ⟨k1, k2, k3⟩ := kwAll (pos := pos) (env := X.env) hq
  refine PySem.W.methodCall_KW (thn (he.run pins s σ H _ J h) fun u s1 ⟨x, H1, J1, rx, C, sp, gV, ex, ok, q⟩ => ?_) (eval_meth hb (form_ok hs hq hn) hl)
  subst ex
  obtain rfl : u = Value.ref C := rx
  obtain ⟨rc, g, fd, ps, k, b, rd, cm, F, hr, kb⟩ := ok
  refine ClX.getmethcm_ok J1 rd cm fun s2 J2 => ?_
  have hs' := hs
  unfold noStars at hs'
  rw [List.all_cons, Bool.and_eq_true] at hs'
  have hst := star_cons (es := es) (env := X.env) (show isStar a = false by simpa using hs'.1)
  refine PySem.W.callWith_of (P := PySem.W.MethP X.K _ g (.ref C)) (first := []) (by rw [noStars_any hs, k2]; rfl) (PySem.W.keeps_M cm.fi) (PyProof.Rows.evalArgs_kw2 k1 ?_ hst)
  refine thn (ha.run pos _ s2 σ H1 _ J2 q) fun us s3 ⟨vs, H2, J3, r, q2⟩ => ?_
  refine thn (hk.run pos _ s3 σ H2 _ J3 q2) fun ws s4 ⟨zs, H3, J4, rz, l1, l2, q3⟩ => ⟨⟨ClX.pin_at J4, J4.kIn⟩, ?_⟩
  rw [k3, hks]
  exact run_cmG F hr kb (hx σ) J4 r rz l1 l2 q3
theorem pe_cmG0 (he : PE X o ta) (hk : PK X kws tk) (hx : ∀ σ, PassesAt (L2.CX X.prog X.w) X σ (E σ)) (hb : attributeBase o m X.env (eval o X.env) = eval o X.env) (hl : (apos.endLine == pos.line) = true)
    (hq : ∀ q ∈ kws, q.arg.isSome = true) (hks : kws.filterMap (·.arg) = ks) (hn : kws.length + 1 < 30) : PE X (.Call (.Attribute o m apos) [] kws pos) (tCmG X m n ks E ta tNil tk) := by
  refine ⟨fun pins s σ H Q J h => ?_⟩
  obtain ⟨k1, k2, k3⟩ := kwAll (pos := pos) (env := X.env) hq
  refine PySem.W.methodCall_KW (thn (he.run pins s σ H _ J h) fun u s1 ⟨x, H1, J1, rx, C, sp, gV, ex, ok, q⟩ => ?_) (eval_meth hb (form_ok (es := []) rfl hq (by simpa using hn)) hl)
  subst ex
  obtain rfl : u = Value.ref C := rx
  obtain ⟨rc, g, fd, ps, k, b, rd, cm, F, hr, kb⟩ := ok
  refine ClX.getmethcm_ok J1 rd cm fun s2 J2 => ?_
  refine PySem.W.callWith_of (P := PySem.W.MethP X.K _ g (.ref C)) (first := []) (by rw [k2]; rfl) (PySem.W.keeps_M cm.fi) (PyProof.Rows.evalArgs_kw2_nil k1 ?_)
  refine thn (hk.run pos _ s2 σ H1 _ J2 q) fun ws s4 ⟨zs, H3, J4, rz, l1, l2, q3⟩ => ⟨⟨ClX.pin_at J4, J4.kIn⟩, ?_⟩
  rw [k3, hks]
  exact run_cmG (us := []) (vs := []) F hr kb (hx σ) J4 .nil rz l1 l2 q3
end
/-! ### .. by values: o.m(..), o an object or a class -/
def MethE.CmOk (X : Cx) (ca : CA) (lvl : Nat) (M : MethE) : Prop := ∃ q g fd k, k + 1 ≤ lvl ∧ ClX.CRead X.K (ca M.cls) (.type "type") ∧ ClX.CMet X.K (ca M.cls) (.type "type") M.E.name q g ∧
  FnR false X.prog X.w X.K X.mg X.base k g fd M.E.ps (spF X.K ca M.E.ps.length M.E.sem) ∧ ∀ s ∈ M.E.shapes, ShapeOk X.K ca fd M.E.ps s
def cmethK (tbl : List MethE) (m : Str) (n : Nat) (ks : List Str) (ms mk : EM (List Opd)) : PV → EM RV
  | .cls c => match findM tbl c m n ks with
    | some (e, s) => ms.bind fun os => mk.bind fun zs => callK e.E.sem e.E.ps.length s (.pv (.cls c) :: os) zs
    | none => EM.bad
  | _ => EM.bad
def cmethM (tbl : List MethE) (m : Str) (n : Nat) (ks : List Str) (mo : EM Opd) (ms mk : EM (List Opd)) : EM RV := mo.bind fun o => (lookM o).bind fun p => cmethK tbl m n ks ms mk p
section
variable {X : Cx} {ca : CA} {lvl : Nat} {tbl cms : List MethE} {m : Str} {pos apos : Pos} {o : Expr} {es : List Expr} {kws : List Keyword} {mo : EM Opd} {ms mk : EM (List Opd)}
theorem cmeth_sem {W : WX} {σ : St} {H : Hp} {Q : VK} {n : Nat} {ks : List Str} (ok : ∀ e ∈ cms, e.CmOk X ca lvl) (hr : Room lvl X.A) (h : Rd X.K ca (cmethM cms m (n + 1) ks mo ms mk) (relV X.K ca) W σ H Q) :
    tCmG X m (n + 1) ks (WE W) (Rd X.K ca mo (relO X.K ca) W) (Rd X.K ca ms (relOs X.K ca) W) (Rd X.K ca mk (relOs X.K ca) W) σ H Q := by
  obtain ⟨c, M, e, S, q⟩ := h
  refine RdAt.bind q S fun od v H1 M1 e1 S1 _ _ r q1 => ?_
  obtain ⟨p, hlk, rp', q2⟩ := q1.lookM S1 r
  clear hlk
  cases p <;> first | exact False.elim q2 | skip
  case cls cn =>
    unfold cmethK at q2
    dsimp only at q2
    cases z1 : findM cms cn m (n + 1) ks with
    | none => simp only [z1] at q2; exact False.elim q2
    | some es' =>
      obtain ⟨E, s⟩ := es'
      simp only [z1] at q2
      obtain ⟨h1, h2, h3, h4, h5, h6⟩ := findM_inv z1
      cases rp'
      obtain ⟨rc, g, fd, k, kl, rd, cm, F, sh⟩ := ok E h1
      obtain ⟨dvs, its, hd, hb⟩ := sh s h4
      rw [h2] at rd cm
      rw [h3] at cm
      rw [h5, h6] at hb
      refine ⟨ca cn, _, _, rfl, ⟨rc, g, fd, E.E.ps, k, _, rd, cm, F, hr.mono (Nat.le_of_succ_le kl), hb⟩, ?_⟩
      refine RdAt.bind q2 S1 fun os vs H2 M2 e2 S2 sm2 _ r2 q3 => ?_
      refine RdAt.bind q3 S2 fun zs ws H3 M3 e3 S3 sm3 _ r3 q4 => ?_
      obtain ⟨l1, l2, l3⟩ := call_at q4 S3 (.cons rfl (relOs.mono r2 sm3)) (relOs.mono r3 (Same.refl _)) hd
      rw [h5] at l1
      rw [h6] at l2
      exact ⟨l1, l2, l3⟩
theorem je_cmeth {a : Expr} (ok : ∀ e ∈ cms, e.CmOk X ca lvl) (hr : Room lvl X.A) (hb : attributeBase o m X.env (eval o X.env) = eval o X.env) (hl : (apos.endLine == pos.line) = true)
    (hs : noStars (a :: es) = true) (hq : ∀ q ∈ kws, q.arg.isSome = true) (hn : (a :: es).length + kws.length + 1 < 30) (ho : JO X ca mo o) (ha : JA X ca ms (a :: es)) (hk : JK X ca mk kws) :
    JE X ca (cmethM cms m ((a :: es).length + 1) (kws.filterMap (·.arg)) mo ms mk) (.Call (.Attribute o m apos) (a :: es) kws pos) := fun W tk =>
  PE.imp (pe_cmG (n := (a :: es).length + 1) (ho W tk) (ha W tk) (hk W tk) (fun σ => passAt tk σ) hb hl hs hq rfl hn) fun σ H Q h => cmeth_sem ok hr h
theorem je_cmeth0 (ok : ∀ e ∈ cms, e.CmOk X ca lvl) (hr : Room lvl X.A) (hb : attributeBase o m X.env (eval o X.env) = eval o X.env) (hl : (apos.endLine == pos.line) = true)
    (hq : ∀ q ∈ kws, q.arg.isSome = true) (hn : kws.length + 1 < 30) (ho : JO X ca mo o) (hk : JK X ca mk kws) :
    JE X ca (cmethM cms m 1 (kws.filterMap (·.arg)) mo opdsNil mk) (.Call (.Attribute o m apos) [] kws pos) := fun W tk =>
  PE.imp (pe_cmG0 (n := 1) (ho W tk) (hk W tk) (fun σ => passAt tk σ) hb hl hq rfl hn) fun σ H Q h => by
    have h2 : Rd X.K ca mo (relO X.K ca) W σ H _ := cmeth_sem (n := 0) ok hr h
    exact Rd.mono h2 fun x H1 ⟨C, sp, gV, h1, h2, h3⟩ => ⟨C, sp, gV, h1, h2, Rd.nil h3⟩
end
end QB

namespace QB
open PySem L2
/-! ### operators of own classes, on the machine -/
section
open PySem.W
variable {prog : Program} {w : World} {A : Around} {E : Value → Shared → Prop} {s : Shared} {K : Frag} {x C f : Addr} {ox : Obj} {od : Option Obj} {b tb : Value}
theorem ifBound_B {M : Model} {name : Str} {id : String} {args : List Value} {Q : Option Value → Shared → Prop} (Kn : K.In s.heap) (I : InstAt s.heap x ox C od) (hs : findIn K (.ref C) name = some (some (.builtin id)))
    (hb : ∀ self, bindSpecial (.builtin id) self = pure (.builtin id, [self])) (hh : wpAny M A (call (.builtin id) (.ref x :: args)) (fun v => Q (some v)) E s) : wpAny M A (callSpecialIfBound? (.ref x) name args) Q E s := by
  simp only [callSpecialIfBound?, bindSpecialIfBound?]
  refine wpAny_holding (wpAny_bind (wpAny_bind (wpAny_bind (I.type.here ((looks_findIn Kn hs).here ?_)))))
  refine wpAny_bind (wpAny_askSetting (wpAny_ite ?_))
  have last : wpAny M A (call (.builtin id) ([.ref x] ++ args) >>= fun v => pure (some v)) Q E s := wpAny_bind (wpAny_mono hh (fun v s' z => wpAny_pure z) fun _ _ z => z)
  split
  · exact wpAny_bind ((Looks.of_pure (hb _)).here (wpAny_pure last))
  · exact wpAny_tryCatch (wpAny_bind ((Looks.of_pure (hb _)).here (wpAny_pure last)))
theorem slot_one : PySem.Slot "object" "__ne__" "object.__ne__" := .of (owner := "object") (n := "__ne__") (by rw [typeLookup_type, builtinLookup_eq_fast]; kernel_rfl) (by decide +kernel) (by decide +kernel) (by decide +kernel) (by first | exact .inl (by decide +kernel) | exact .inr (by decide +kernel)) (by rw [isSubtype_type]; kernel_rfl)
theorem ne_entry {Q : Fin → Shared → Prop} (hu : A.units < cLine) (Kn : K.In s.heap) (I : InstAt s.heap x ox C od) (he : findIn K (.ref C) "__eq__" = some (some (.ref f))) (hf : isFn K (.ref f) = true)
    (h : wpAny (model prog w) A (call (.ref f) [.ref x, b]) (fun v s' => ∃ k, v = .bool k ∧ Q (.done (.ret (.bool (!k)))) s') E s) : wpAny (model prog w) A (Builtin.«object.__ne__» ⟨[.ref x, b], []⟩) Q E s := by
  unfold Builtin.«object.__ne__»
  refine wpAny_bind (m := slotArgs "__ne__" 1 _) (wpAny_pure ?_)
  refine wpAny_bind (m := cRoomFor _ _) (wpAny_cRoomFor hu ?_)
  refine wpAny_bind (m := callSpecialIfBound? (.ref x) (Str.ofString "__eq__") _) (ifBound_K Kn I he hf (wpAny_mono h (fun v s' hv => ?_) fun _ _ z => z))
  obtain ⟨k, rfl, hq⟩ := hv
  refine wpAny_bind (m := truthy (.bool k)) (wpAny_pure ?_)
  exact wpAny_pure hq
theorem ne_K {Q : Value → Shared → Prop} (hu : A.units + 1 < cLine) (Kn : K.In s.heap) (I : InstAt s.heap x ox C od) (hm : mroIn K C (.type "object") = some true) (hb : Looks (model prog w) s.heap (typeOf b) tb) (hn : notFirst K C tb = true)
    (hs : findIn K (.ref C) "__ne__" = some (some (.builtin "object.__ne__"))) (he : findIn K (.ref C) "__eq__" = some (some (.ref f))) (hf : isFn K (.ref f) = true)
    (h : wpAny (model prog w) A.in1 (call (.ref f) [.ref x, b]) (fun v s' => ∃ k, v = .bool k ∧ Q (.bool (!k)) s') E s) : wpAny (model prog w) A (richCompare .NotEq (.ref x) b) Q E s := by
  have one : wpAny (model prog w) A (tryCompare (.ref x) (cmpInfo .NotEq).2.1 b) (fun r s' => ∃ v, r = some v ∧ Q v s') E s := by
    unfold tryCompare
    refine wpAny_bind (ifBound_B Kn I hs slot_one.bind (wpAny_call (codeAny_call_builtin slot_one.plain PySem.F.cmpEntry_ne (check_slot (i := "object.__ne__") (owner := "object") (n := "__ne__") PySem.F.cmpKind_ne PySem.F.cmpSplit_ne (I.type.andThen (looks_mroIn Kn hm)) (PySem.F.cmpArgs_ne _ _) ?_))))
    refine ne_entry (A := A.in1) hu Kn I he hf (wpAny_mono h (fun v s' hv => ?_) fun _ _ z => z)
    obtain ⟨k, rfl, hq⟩ := hv
    exact ⟨k, rfl, wpAny_pure ⟨_, rfl, hq⟩⟩
  have hu0 : A.units < cLine := Nat.lt_of_succ_lt hu
  unfold richCompare
  simp only [oneThing_ref]
  refine wpAny_holding (wpAny_bind (wpAny_cRoomFor hu0 ?_))
  refine wpAny_bind (I.type.here (wpAny_bind (hb.here ?_)))
  split
  · rename_i q
    have e : subIn K tb (.ref C) = some false := by
      rcases Bool.or_eq_true_iff.mp hn with e | e
      · rw [beq_iff_eq.mp e] at q; simp at q
      · exact beq_iff_eq.mp e
    refine wpAny_bind ((looks_subIn Kn e).here ?_)
    simp only [Bool.false_eq_true, if_false]
    refine wpAny_bind (wpAny_mono one (fun r s' z => ?_) fun _ _ e => e)
    obtain ⟨v, rfl, hq⟩ := z
    exact wpAny_pure hq
  · refine wpAny_bind (wpAny_pure ?_)
    simp only [Bool.false_eq_true, if_false]
    refine wpAny_bind (wpAny_mono one (fun r s' z => ?_) fun _ _ e => e)
    obtain ⟨v, rfl, hq⟩ := z
    exact wpAny_pure hq
theorem bin1_K {nm : String} {Q : Value → Shared → Prop} (Kn : K.In s.heap) (I : InstAt s.heap x ox C od) (hb : Looks (model prog w) s.heap (typeOf b) (.ref C)) (hc : selfFirst K C = true)
    (hs : findIn K (.ref C) (PySem.dunder nm) = some (some (.ref f))) (hf : isFn K (.ref f) = true)
    (h : wpAny (model prog w) A (call (.ref f) [.ref x, b]) (CmpBack Q) E s) : wpAny (model prog w) A (binaryOp1 nm (.ref x) b) (fun r s' => ∃ v, r = some v ∧ Q v s') E s := by
  obtain ⟨cd, hcd, hm⟩ := any_some hc
  obtain ⟨rest, hm⟩ : ∃ rest, cd.mro = .ref C :: rest := by
    cases q : cd.mro with
    | nil => rw [q] at hm; cases hm
    | cons a r =>
      rw [q, List.head?_cons] at hm
      cases beq_iff_eq.mp hm
      exact ⟨r, rfl⟩
  unfold binaryOp1
  refine wpAny_bind (I.type.here (wpAny_bind (hb.here (wpAny_bind ((fills_K Kn hcd hm hs).here ?_)))))
  simp only [beq_self_eq_true, if_true]
  refine wpAny_bind (wpAny_pure ?_)
  simp only [Bool.and_false, Bool.false_eq_true, if_false, Bool.false_and]
  refine wpAny_bind (wpAny_pure ?_)
  simp only [Bool.false_eq_true, if_false]
  refine wpAny_bind (m := tryMethod (.ref x) _ b) ?_
  unfold tryMethod
  refine wpAny_bind (special_fn Kn I hs (beq_iff_eq.mp hf) (wpAny_mono h (fun v s' hv => ?_) fun _ _ e => e))
  cases v <;> first | exact hv.elim | exact wpAny_pure (wpAny_pure ⟨_, rfl, hv⟩)
/-- a op= b where the class has no own def for it -/
theorem inplace_K {op : Operator} {Q : Value → Shared → Prop} (Kn : K.In s.heap) (I : InstAt s.heap x ox C od) (hb : Looks (model prog w) s.heap (typeOf b) (.ref C)) {cd : ClassData} (hcd : clsIn K C = some cd) (hm : cd.mro = [.ref C, .type "object"])
    (hi : findIn K (.ref C) (dunderI op.info.2) = some none) (ho : findIn K (.type "object") (dunderI op.info.2) = some none)
    (hs : findIn K (.ref C) (PySem.dunder op.info.2) = some (some (.ref f))) (hf : isFn K (.ref f) = true)
    (h : wpAny (model prog w) A (call (.ref f) [.ref x, b]) (CmpBack Q) E s) : wpAny (model prog w) A (inplaceOp op (.ref x) b) Q E s := by
  have hc : selfFirst K C = true := by
    unfold selfFirst
    rw [hcd]
    show (cd.mro.head? == some (.ref C)) = true
    rw [hm]
    exact beq_self_eq_true _
  have no : ∀ {k : Bool} {R : Bool → Shared → Prop}, R false s → wpAny (model prog w) A (fillsInplaceSlot (.ref C) op.info.2 k) R E s := fun {k R} hR => by
    unfold fillsInplaceSlot
    refine wpAny_bind ((looks_clsIn Kn hcd).andThen (f := fun cd => pure cd.mro) .now A _ E s (fun _ _ z => z) ?_)
    rw [hm, List.anyM_cons]
    refine wpAny_bind (wpAny_bind ((looks_findIn Kn hi).here ?_))
    refine wpAny_pure ?_
    simp only [Bool.false_eq_true, if_false]
    rw [List.anyM_cons]
    refine wpAny_bind (wpAny_bind ((looks_findIn Kn ho).here ?_))
    refine wpAny_pure ?_
    simp only [Bool.false_eq_true, if_false]
    exact wpAny_pure hR
  unfold inplaceOp
  refine wpAny_holding (wpAny_bind (I.type.here (wpAny_bind (no ?_))))
  simp only [Bool.false_eq_true, if_false]
  refine wpAny_bind (wpAny_mono (bin1_K Kn I hb hc hs hf h) (fun r s' hr => ?_) fun _ _ e => e)
  obtain ⟨v, rfl, hv⟩ := hr
  exact wpAny_pure hv
end
end QB

namespace QB
open PySem L2
/-! ### operands of operators: what is named stands still from then on -/
def isMut (c : Str) : Bool := c == "Project" || c == "Desk" || c == "Parts" || c == "Trial"
def MO.isMut : MO → Bool
  | .ins c _ _ => QB.isMut c
  | _ => false
def frzO : Opd → EM Opd
  | .pv p => EM.ret (.pv p)
  | .slot i => fun e => match e[i]? with
    | some (some (.val p)) => .ok (.pv p) e
    | some (some (.own o)) => if o.isMut then .ok (.slot i) e else .ok (.pv o.pv) (e.set i (some (.val o.pv)))
    | some (some (.par o)) => .ok (.slot i) e
    | _ => .bad
def frzs : List Opd → EM (List Opd)
  | [] => EM.ret []
  | o :: os => (frzO o).bind fun o' => (frzs os).bind fun os' => EM.ret (o' :: os')
section
variable {X : Cx} {ca : CA} {K : PySem.W.Frag} {c c' : Fx} {M M' M1 : Addr → Prop} {σ σ' σ1 : St} {H H' H1 : Hp} {e e' e1 : En} {W : WX}
theorem RdAt.frz {γ δ : Type} {o : Opd} {v : V} {f : Opd → EM γ} {rel : RelT γ δ} {Q : δ → Hp → Prop} (h : RdAt K ca c ((frzO o).bind f) rel W e σ Q) (S : Sim K ca c M σ H e) (r : relO K ca c' M σ H e1 o v) :
    ∃ o' e' M', Sim K ca c M' σ H e' ∧ Same (hid H M) (hid H M') ∧ relO K ca c M' σ H e' o' v ∧ RdAt K ca c (f o') rel W e' σ Q := by
  cases o with
  | pv p => exact ⟨.pv p, e, M, S, Same.refl _, r, h⟩
  | slot i =>
    have r' : σ[i]? = some (some v) := r
    unfold RdAt EM.bind frzO at h
    cases q : e[i]? with
    | none => simp only [q] at h
    | some z =>
      cases z with
      | none => simp only [q] at h
      | some s =>
        obtain ⟨w, ew, rs⟩ := S.slot i s q
        rw [r'] at ew
        cases ew
        cases s with
        | val p => simp only [q] at h; exact ⟨.pv p, e, M, S, Same.refl _, rs, h⟩
        | par o => simp only [q] at h; exact ⟨.slot i, e, M, S, Same.refl _, r', h⟩
        | exn x => simp only [q] at h
        | own o =>
          simp only [q] at h
          cases z : o.isMut with
          | true => simp only [z, if_true] at h; exact ⟨.slot i, e, M, S, Same.refl _, r', h⟩
          | false =>
            simp only [z, Bool.false_eq_true, if_false] at h
            obtain ⟨a, rfl, ma, mr⟩ := id rs
            obtain ⟨S', rr⟩ := S.freeze q r'
            exact ⟨.pv o.pv, _, subM M a, S', hid_less fun b z => z.1, rr, h⟩
theorem RdAt.frzs {γ δ : Type} {rel : RelT γ δ} {Q : δ → Hp → Prop} : ∀ {os : List Opd} {vs : List V} {f : List Opd → EM γ} {c' : Fx} {e e1 : En} {M : Addr → Prop}, RdAt K ca c ((QB.frzs os).bind f) rel W e σ Q → Sim K ca c M σ H e → relOs K ca c' M σ H e1 os vs →
    ∃ os' e' M', Sim K ca c M' σ H e' ∧ Same (hid H M) (hid H M') ∧ relOs K ca c M' σ H e' os' vs ∧ RdAt K ca c (f os') rel W e' σ Q
  | [], _, f, c', e, e1, M, h, S, .nil => ⟨[], e, M, S, Same.refl _, .nil, h⟩
  | o :: os, _, f, c', e, e1, M, h, S, .cons r t => by
    have h1 : RdAt K ca c ((frzO o).bind fun o' => (QB.frzs os).bind fun os' => f (o' :: os')) rel W e σ Q := by
      have e2 : (QB.frzs (o :: os)).bind f = (frzO o).bind fun o' => (QB.frzs os).bind fun os' => f (o' :: os') := by
        funext e
        simp only [QB.frzs, EM.bind]
        cases frzO o e with
        | ok a e' => dsimp only; cases QB.frzs os e' <;> rfl
        | _ => rfl
      rw [← e2]
      exact h
    obtain ⟨o', e', M', S', sm, r', h2⟩ := RdAt.frz h1 S r
    obtain ⟨os', e2, M2, S2, sm2, t2, h3⟩ := RdAt.frzs h2 S' (relOs.mono (e' := e1) (c' := c') t sm)
    exact ⟨o' :: os', e2, M2, S2, sm.trans sm2, .cons (relO.mono r' sm2) t2, h3⟩
end
/-! ### an own def behind an operator -/
def dunK (tbl : List MethE) (dn : Str) (os : List Opd) (cn : Str) : EM RV := match findM tbl cn dn os.length [] with
  | some (E, s) => (frzs os).bind fun os' => (callK E.E.sem E.E.ps.length s os' []).calm
  | none => EM.bad
section
variable {X : Cx} {ca : CA} {lvl : Nat} {tbl : List MethE}
/-- what stands behind it -/
structure DunAt (X : Cx) (C : Addr) (dn : Str) (lvl : Nat) (vs : List V) (H : Hp) (Q : VK) : Prop where
  ex : ∃ f fd ps k sp b gV, k + 2 ≤ lvl ∧ Cls X.K C ∧ Meth X.K C dn f ∧ FnR false X.prog X.w X.K X.mg X.base k f fd ps sp ∧ KBn X.K fd ps vs.length [] b gV ∧ sp (gV vs []) H Q (fun _ _ _ => False)
theorem dun_at {c c' : Fx} {M : Addr → Prop} {σ : St} {H : Hp} {e e1 : En} {W : WX} {Q : VK} {dn cn : Str} {os : List Opd} {vs : List V} (ok : ∀ e ∈ tbl, e.Ok X ca lvl) (h : RdAt X.K ca c (dunK tbl dn os cn) (relV X.K ca) W e σ Q) (S : Sim X.K ca c M σ H e) (r : relOs X.K ca c' M σ H e1 os vs) :
    DunAt X (ca cn) dn lvl vs H Q := by
  unfold dunK at h
  cases z : findM tbl cn dn os.length [] with
  | none => simp only [z] at h; exact False.elim h
  | some w =>
    obtain ⟨E, s⟩ := w
    simp only [z] at h
    obtain ⟨h1, h2, h3, h4, h5, h6⟩ := findM_inv z
    obtain ⟨f, fd, k, kl, hc, hm, F, sh⟩ := ok E h1
    obtain ⟨dvs, its, hd, hb⟩ := sh s h4
    rw [h2] at hc hm
    rw [h3] at hm
    have ll := pairedLen r
    rw [h5, h6, ll] at hb
    obtain ⟨os', e', M', S', sm, r', q⟩ := RdAt.frzs h S r
    obtain ⟨l1, l2, l3⟩ := call_at (zs := []) (ws := []) (RdAt.calm (W' := fun _ _ _ _ => False) q) S' r' .nil hd
    exact ⟨f, fd, E.E.ps, k, _, _, _, kl, hc, hm, F, hb, l3⟩
theorem call_dun {A' : Around} {pins : List (Addr × Obj)} {σ : St} {H : Hp} {s : Shared} {Q : VK} {us : List Value} {vs : List V} {k : Nat} {f : Addr} {fd : FuncData} {ps : List Str} {sp : Sp} {b : List Value → List Value → List Value} {gV : List V → List V → List V} {E' : Value → Shared → Prop} (J : Inv X pins σ H s)
    (F : FnR false X.prog X.w X.K X.mg X.base k f fd ps sp) (hr : Room k A') (e0 : Env0 X.prog X.w X.K X.mg X.base A' X.stack s H) (hb : KBn X.K fd ps vs.length [] b gV) (r : Vals vs us) (h : sp (gV vs []) H Q (fun _ _ _ => False)) :
    wpAny (model X.prog X.w) A' (call (.ref f) us) (EP X pins σ Q) E' s := by
  have go := F.run A' X.stack s H ⟨us, []⟩ (b us []) (gV vs []) Q (fun _ _ _ => False) (fun z => by cases z) hr e0 (hb.to s us [] J.kIn r.length.symm rfl) (hb.rel r .nil) h
  refine wpAny_call (codeAny_mono go fun res s' hs => ?_)
  cases res with
  | error er =>
    obtain ⟨_, _, _, _, _, _, _, _, _, _, _, _, z⟩ := hs
    exact z.elim
  | ok fl =>
    cases fl with
    | ret u => exact J.after hs
    | next => exact False.elim hs
    | brk => exact False.elim hs
    | cont => exact False.elim hs
theorem DunAt.run {C : Addr} {dn : Str} {vs : List V} {H : Hp} {Q : VK} (D : DunAt X C dn lvl vs H Q) (hr : Room lvl X.A) : ∃ f, Cls X.K C ∧ Meth X.K C dn f ∧
    (∀ {pins : List (Addr × Obj)} {σ : St} {s : Shared} {us : List Value} {E' : Value → Shared → Prop}, Inv X pins σ H s → Vals vs us → wpAny (model X.prog X.w) X.A (call (.ref f) us) (EP X pins σ Q) E' s) ∧
    (∀ {pins : List (Addr × Obj)} {σ : St} {s : Shared} {us : List Value} {E' : Value → Shared → Prop}, Inv X pins σ H s → Vals vs us → wpAny (model X.prog X.w) X.A.in1 (call (.ref f) us) (EP X pins σ Q) E' s) ∧
    (∀ {pins : List (Addr × Obj)} {σ : St} {s : Shared} {us : List Value} {E' : Value → Shared → Prop}, Inv X pins σ H s → Vals vs us → wpAny (model X.prog X.w) X.A.in1.in1 (call (.ref f) us) (EP X pins σ Q) E' s) := by
  obtain ⟨f, fd, ps, k, sp, b, gV, kl, hc, hm, F, hb, h⟩ := D.ex
  have hr2 : Room (k + 2) X.A := hr.mono kl
  have hr1 : Room (k + 1) X.A := hr2.mono (Nat.le_succ _)
  exact ⟨f, hc, hm, fun J r => call_dun J F (hr1.mono (Nat.le_succ _)) J.env0 hb r h, fun J r => call_dun J F hr1.in1 J.env0.in1 hb r h, fun J r => call_dun J F hr2.in1.in1 J.env0.in1.in1 hb r h⟩
/-- an object of an own class, on the machine -/
theorem ins_at {pins : List (Addr × Obj)} {σ : St} {H : Hp} {s : Shared} {a C dx : Addr} {fs : List (Str × V)} (J : Inv X pins σ H s) (ha : H a = some (.ins C dx fs)) : ∃ ox od, PySem.W.InstAt s.heap a ox C (some od) := by
  obtain ⟨mA, O, _, _, _, _⟩ := ins_get J.hok ha
  obtain ⟨od, L, _⟩ := O.look
  exact ⟨_, od, L⟩
/-- two operands -/
def rSemO (K : PySem.W.Frag) (ca : CA) (W : WX) (f : Opd → Opd → EM RV) : R2 := fun v w H Q => ∃ c c' M σ e a b, Sim K ca c M σ H e ∧ relO K ca c' M σ H e a v ∧ relO K ca c' M σ H e b w ∧ RdAt K ca c (f a b) (relV K ca) W e σ Q
def twoO {α : Type} (ma mb : EM Opd) (f : Opd → Opd → EM α) : EM α := ma.bind fun a => mb.bind fun b => f a b
theorem twoO_op {W : WX} {ma mb : EM Opd} {f : Opd → Opd → EM RV} {σ : St} {H : Hp} {Q : VK} (h : Rd X.K ca (twoO ma mb f) (relV X.K ca) W σ H Q) :
    tOp (rSemO X.K ca W f) (Rd X.K ca ma (relO X.K ca) W) (Rd X.K ca mb (relO X.K ca) W) σ H Q := by
  obtain ⟨c, M, e, S, q⟩ := h
  refine RdAt.bind q S fun a v H1 M1 e1 S1 _ _ r1 q1 => ?_
  refine RdAt.bind q1 S1 fun b w H2 M2 e2 S2 sm _ r2 q2 => ?_
  exact ⟨c, c, M2, σ, e2, a, b, S2, relO.mono r1 sm, relO.mono r2 (Same.refl _), q2⟩
def dunT (fq : List Fq) (c : Str) : Bool := fq.any fun q => match q with
  | .dun c' => c' == c
  | _ => false
theorem dunT_ok {K : PySem.W.Frag} {fq : List Fq} (F : FqOk K ca fq) {c : Str} (h : dunT fq c = true) : DunC K (ca c) := by
  obtain ⟨q, hq, hr⟩ := List.any_eq_true.mp h
  cases q <;> first | (cases hr; done) | skip
  case dun c' =>
    have e1 := beq_iff_eq.mp hr
    subst e1
    rw [F.at_]
    exact dunB_ok (F.ok _ hq)
def nfF (c : Str) (t : CK) : Fq → Bool
  | .nf c' t' => decide (c' = c ∧ t' = t)
  | _ => false
def nfT (fq : List Fq) (c : Str) (t : CK) : Bool := fq.any (nfF c t)
theorem nfT_ok {K : PySem.W.Frag} {fq : List Fq} (F : FqOk K ca fq) {c : Str} {t : CK} (h : nfT fq c t = true) : PySem.W.notFirst K (ca c) (t.val K) = true ∧ okC K t := by
  obtain ⟨q, hq, hr⟩ := List.any_eq_true.mp h
  cases q <;> first | (cases hr; done) | skip
  case nf c' t' =>
    obtain ⟨rfl, rfl⟩ := of_decide_eq_true hr
    obtain ⟨k1, k2⟩ := and2 (F.ok _ hq)
    obtain ⟨k3, k4⟩ := and2 k2
    rw [F.at_]
    refine ⟨k3, ?_⟩
    cases t' with
    | bt t => trivial
    | oc c => exact k4
/-- a op b, a & b & .. of own objects too -/
def opX (fq : List Fq) (tbl : List MethE) (op : Operator) (a b : Opd) : EM RV := (lookM a).bind fun x => (lookM b).bind fun y => match x with
  | .ins c _ _ => (match y with
    | .ins c' _ _ => if decide (c' = c) && dunT fq c then dunK tbl (PySem.dunder op.info.2) [a, b] c else EM.bad
    | _ => EM.bad)
  | x => opB op x y
theorem or_binX {W : WX} {fq : List Fq} {op : Operator} (F : FqOk X.K ca fq) (ok : ∀ e ∈ tbl, e.Ok X ca lvl) (hr : Room lvl X.A) : OpR X (binaryOp op) (rSemO X.K ca W (opX fq tbl op)) := by
  intro pins s σ0 H v w u1 u2 Q J r1 r2 ⟨c, c', M, σ, e, a, b, S, ra, rb, h⟩
  obtain ⟨x, hxl, rx, h1⟩ := h.lookM S ra
  obtain ⟨y, hyl, ry, h2⟩ := h1.lookM S rb
  cases x with
  | ins cn ks xs =>
    dsimp only at h2
    cases y with
    | ins cn' ks' ys =>
      dsimp only at h2
      obtain ⟨hz, h3⟩ := RdAt.ite h2
      obtain ⟨z1, z2⟩ := and2 hz
      have ec : cn' = cn := of_decide_eq_true z1
      subst ec
      have dc := dunT_ok F z2
      obtain ⟨f, cl, me, run, _⟩ := (dun_at ok h3 S (.cons ra (.cons rb .nil))).run hr
      obtain ⟨a1, dx, fs, rfl, ha, _⟩ := rx
      obtain ⟨b1, dy, gs, rfl, hb, _⟩ := ry
      cases (show u1 = Value.ref a1 from r1)
      cases (show u2 = Value.ref b1 from r2)
      obtain ⟨ox, od, L⟩ := ins_at J ha
      obtain ⟨oy, od', L'⟩ := ins_at J hb
      obtain ⟨m, fr⟩ := J.fr
      refine PySem.W.binop_K (op := op) fr J.ok.mod.kin L L'.type dc.sf me.at_ me.fn ?_
      refine wpAny_mono (run (E' := X.xe) J (.cons rfl (.cons rfl .nil))) (fun z s' hz => ?_) fun _ _ z => z
      obtain ⟨z', H', J', rz, qz⟩ := hz
      exact SlX.cmpback rz ⟨z', H', J', rz, qz⟩
    | _ => exact False.elim h2
  | _ => exact or_bin op pins s σ0 H v w u1 u2 Q J r1 r2 ⟨c, M, σ, e, _, y, S, rx, ry, h2⟩
theorem je_binX {fq : List Fq} {a b : Expr} {ma mb : EM Opd} {op : Operator} {pos : Pos} (F : FqOk X.K ca fq) (ok : ∀ e ∈ tbl, e.Ok X ca lvl) (hr : Room lvl X.A) (ha : JO X ca ma a) (hb : JO X ca mb b) : JE X ca (twoO ma mb (opX fq tbl op)) (.BinOp a op b pos) := fun W tk =>
  PE.imp (pe_op (or_binX F ok hr) (ha W tk) (hb W tk)) fun σ H Q h => twoO_op h
/-- ~a -/
def invX (tbl : List MethE) (a : Opd) : EM RV := (lookM a).bind fun x => match x with
  | .ins c _ _ => dunK tbl "__invert__" [a] c
  | _ => EM.bad
theorem je_invX {a : Expr} {ma : EM Opd} {pos : Pos} (ok : ∀ e ∈ tbl, e.Ok X ca lvl) (hr : Room lvl X.A) (ha : JO X ca ma a) : JE X ca (ma.bind (invX tbl)) (.UnaryOp .Invert a pos) := fun W tk => by
  have un : UnR X (unaryOp .Invert) (fun v H Q => ∃ c c' M σ e a, Sim X.K ca c M σ H e ∧ relO X.K ca c' M σ H e a v ∧ RdAt X.K ca c (invX tbl a) (relV X.K ca) W e σ Q) := by
    intro pins s σ0 H v u Q J r1 ⟨c, c', M, σ, e, a, S, ra, h⟩
    obtain ⟨x, hxl, rx, h1⟩ := h.lookM S ra
    cases x with
    | ins cn ks xs =>
      dsimp only at h1
      obtain ⟨f, cl, me, run, _⟩ := (dun_at ok h1 S (.cons ra .nil)).run hr
      obtain ⟨a1, dx, fs, rfl, ha, _⟩ := rx
      cases (show u = Value.ref a1 from r1)
      obtain ⟨ox, od, L⟩ := ins_at J ha
      obtain ⟨m, fr⟩ := J.fr
      exact PySem.W.ksp_inv fr J.ok.mod.kin L me.at_ me.fn (run (E' := X.xe) J (.cons rfl .nil))
    | _ => exact False.elim h1
  refine PE.imp (pe_un un (ha W tk)) fun σ H Q ⟨c, M, e, S, q⟩ => RdAt.bind q S fun a v H1 M1 e1 S1 _ _ r1 q1 => ?_
  exact ⟨c, c, M1, σ, e1, a, S1, relO.mono r1 (Same.refl _), q1⟩
/-! ### comparisons -/
def cmpN : CmpOp → Option Str
  | .Eq => some "__eq__"
  | .Lt => some "__lt__"
  | .LtE => some "__le__"
  | .Gt => some "__gt__"
  | .GtE => some "__ge__"
  | _ => none
theorem cmpN_inv {op : CmpOp} {dn : Str} (h : cmpN op = some dn) : (cmpInfo op).2.1 = dn ∧ ∀ a b, compareOp op a b = richCompare op a b := by
  cases op <;> first | (cases h; done) | (cases h; exact ⟨rfl, fun _ _ => rfl⟩)
/-- the class of the other one is known, and its operators come behind ours -/
def nfP (fq : List Fq) (c : Str) (y : PV) : Bool := match ckN y with
  | some t => nfT fq c t
  | none => false
def boolR {α : Type} (m : EM RV) (f : Bool → EM α) : EM α := m.bind fun r => match r.pv with
  | .bl k => f k
  | _ => EM.bad
def cmpX (fq : List Fq) (tbl : List MethE) (op : CmpOp) (a b : Opd) : EM RV := (lookM a).bind fun x => (lookM b).bind fun y => match op with
  | .In => (match y with
    | .ins c _ _ => boolR (dunK tbl "__contains__" [b, a] c) retB
    | y => opC .In x y)
  | .NotIn => (match y with
    | .ins c _ _ => boolR (dunK tbl "__contains__" [b, a] c) fun k => retB (!k)
    | y => opC .NotIn x y)
  | .NotEq => (match x with
    | .ins c _ _ => if dunT fq c && nfP fq c y then boolR (dunK tbl "__eq__" [a, b] c) fun k => retB (!k) else EM.bad
    | x => opC .NotEq x y)
  | .Is => opC .Is x y
  | .IsNot => opC .IsNot x y
  | op => (match x with
    | .ins c _ _ => (match cmpN op with
      | some dn => if nfP fq c y then dunK tbl dn [a, b] c else EM.bad
      | none => EM.bad)
    | x => opC op x y)
theorem RdAt.boolR {α β : Type} {K : PySem.W.Frag} {c : Fx} {m : EM RV} {f : Bool → EM α} {rel : RelT α β} {W : WX} {e : En} {σ : St} {Q : β → Hp → Prop} (h : RdAt K ca c (QB.boolR m f) rel W e σ Q) :
    RdAt K ca c m (relV K ca) W e σ (fun v H => ∃ k, v = .bl k ∧ ∃ M' e', Sim K ca c M' σ H e' ∧ RdAt K ca c (f k) rel W e' σ Q) := by
  unfold RdAt QB.boolR EM.bind at h
  unfold RdAt
  cases z : m e with
  | ok r e' =>
    simp only [z] at h
    intro v H' M' S' rv
    cases zp : r.pv with
    | bl k =>
      simp only [zp] at h
      have hv := rv.1
      rw [zp] at hv
      cases hv
      exact ⟨k, rfl, M', e', S', h⟩
    | _ => simp only [zp] at h; exact False.elim h
  | exc x e' => simp only [z] at h; exact h
  | bad => simp only [z] at h
theorem ty_look {fq : List Fq} {c : Str} {M : Addr → Prop} {pins : List (Addr × Obj)} {σ : St} {H : Hp} {s : Shared} {y : PV} {w : V} {u : Value} (F : FqOk X.K ca fq) (J : Inv X pins σ H s) (r : RelV w u) (ry : RepT X.K ca (hid H M) H y w) (h : nfP fq c y = true) :
    ∃ tb, PySem.W.Looks (model X.prog X.w) s.heap (typeOf u) tb ∧ PySem.W.notFirst X.K (ca c) tb = true := by
  unfold nfP at h
  cases z : ckN y with
  | none => rw [z] at h; cases h
  | some t =>
    rw [z] at h
    obtain ⟨k1, k2⟩ := nfT_ok F h
    obtain ⟨P, Z, p, _⟩ := kit_of J r (ry.ty F.at_ z k2)
    exact ⟨_, Z.ty _ _ J.kIn p, k1⟩
theorem or_cmpX {W : WX} {fq : List Fq} {op : CmpOp} (F : FqOk X.K ca fq) (ok : ∀ e ∈ tbl, e.Ok X ca lvl) (hr : Room lvl X.A) (hu : X.A.units + 65 < cLine) : OpR X (compareOp op) (rSemO X.K ca W (cmpX fq tbl op)) := by
  intro pins s σ0 H v w u1 u2 Q J r1 r2 ⟨c, c', M, σ, e, a, b, S, ra, rb, h⟩
  obtain ⟨x, hxl, rx, h1⟩ := h.lookM S ra
  obtain ⟨y, hyl, ry, h2⟩ := h1.lookM S rb
  have plain : ∀ {op : CmpOp}, RdAt X.K ca c (opC op x y) (relV X.K ca) W e σ Q → wpAny (model X.prog X.w) X.A (compareOp op u1 u2) (EP X pins σ0 Q) X.xe s := fun {op} hp => or_cmp hu op pins s σ0 H v w u1 u2 Q J r1 r2 ⟨c, M, σ, e, x, y, S, rx, ry, hp⟩
  have rich : ∀ {op : CmpOp} {dn : Str}, cmpN op = some dn → RdAt X.K ca c (match x with
      | .ins c _ _ => (match cmpN op with
        | some dn => if nfP fq c y then dunK tbl dn [a, b] c else EM.bad
        | none => EM.bad)
      | x => opC op x y) (relV X.K ca) W e σ Q → wpAny (model X.prog X.w) X.A (compareOp op u1 u2) (EP X pins σ0 Q) X.xe s := fun {op dn} hop hp => by
    cases x with
    | ins cn ks xs =>
      simp only [hop] at hp
      obtain ⟨hz, h3⟩ := RdAt.ite hp
      obtain ⟨f, cl, me, run, _⟩ := (dun_at ok h3 S (.cons ra (.cons rb .nil))).run hr
      obtain ⟨tb, T1, T2⟩ := ty_look F J r2 ry hz
      obtain ⟨a1, dx, fs, rfl, ha, _⟩ := rx
      cases (show u1 = Value.ref a1 from r1)
      obtain ⟨ox, od, L⟩ := ins_at J ha
      obtain ⟨m, fr⟩ := J.fr
      obtain ⟨e1, e2⟩ := cmpN_inv hop
      rw [e2]
      refine PySem.W.cmp_K (op := op) hr.units0 fr J.ok.mod.kin L T1 T2 (by rw [e1]; exact me.at_) me.fn ?_
      refine wpAny_mono (run (E' := X.xe) J (.cons rfl (.cons r2 .nil))) (fun z s' hz => ?_) fun _ _ z => z
      obtain ⟨z', H', J', rz, qz⟩ := hz
      exact SlX.cmpback rz ⟨z', H', J', rz, qz⟩
    | _ => exact plain hp
  have cont : ∀ {neg : Bool}, RdAt X.K ca c (match y with
      | .ins c _ _ => QB.boolR (dunK tbl "__contains__" [b, a] c) fun k => retB (if neg then !k else k)
      | y => opC (if neg then .NotIn else .In) x y) (relV X.K ca) W e σ Q → wpAny (model X.prog X.w) X.A (compareOp (if neg then .NotIn else .In) u1 u2) (EP X pins σ0 Q) X.xe s := fun {neg} hp => by
    cases y with
    | ins cn ks xs =>
      dsimp only at hp
      obtain ⟨f, cl, me, run, _⟩ := (dun_at ok (RdAt.boolR hp) S (.cons rb (.cons ra .nil))).run hr
      obtain ⟨b1, dy, gs, rfl, hb, _⟩ := ry
      cases (show u2 = Value.ref b1 from r2)
      obtain ⟨oy, od', L'⟩ := ins_at J hb
      obtain ⟨m, fr⟩ := J.fr
      have go := wpAny_mono (run (E' := X.xe) J (.cons rfl (.cons r1 .nil))) (Q' := fun r s' => wpAny (model X.prog X.w) X.A (truthy r) (fun k => EP X pins σ0 Q (.bool (if neg then !k else k))) X.xe s') (E' := X.xe) (fun z s' hz => by
        obtain ⟨z', H', J', rz, k, rfl, M', e', S', q'⟩ := hz
        cases (show z = Value.bool k from rz)
        exact wpAny_pure ⟨.bl _, H', J', rfl, q'.ret S' ⟨rfl, trivial⟩⟩) fun _ _ z => z
      cases neg with
      | true => exact PySem.W.notIn_K fr J.ok.mod.kin L' me.at_ me.fn go
      | false => exact PySem.W.in_K fr J.ok.mod.kin L' me.at_ me.fn go
    | _ => exact plain hp
  cases op with
  | In => exact cont (neg := false) h2
  | NotIn => exact cont (neg := true) h2
  | Is => exact plain h2
  | IsNot => exact plain h2
  | Eq => exact rich rfl h2
  | Lt => exact rich rfl h2
  | LtE => exact rich rfl h2
  | Gt => exact rich rfl h2
  | GtE => exact rich rfl h2
  | NotEq =>
    unfold cmpX at h
    cases x with
    | ins cn ks xs =>
      dsimp only at h2
      obtain ⟨hz, h3⟩ := RdAt.ite h2
      obtain ⟨z1, z2⟩ := and2 hz
      have dc := dunT_ok F z1
      obtain ⟨f, cl, me, _, run, _⟩ := (dun_at ok (RdAt.boolR h3) S (.cons ra (.cons rb .nil))).run hr
      obtain ⟨tb, T1, T2⟩ := ty_look F J r2 ry z2
      obtain ⟨a1, dx, fs, rfl, ha, _⟩ := rx
      cases (show u1 = Value.ref a1 from r1)
      obtain ⟨ox, od, L⟩ := ins_at J ha
      show wpAny _ _ (richCompare .NotEq (.ref a1) u2) _ _ _
      refine ne_K (by omega) J.kIn L dc.cc.hm T1 T2 dc.ne me.at_ me.fn ?_
      refine wpAny_mono (run (E' := X.xe) J (.cons rfl (.cons r2 .nil))) (fun z s' hz => ?_) fun _ _ z => z
      obtain ⟨z', H', J', rz, k, rfl, M', e', S', q'⟩ := hz
      cases (show z = Value.bool k from rz)
      exact ⟨k, rfl, .bl _, H', J', rfl, q'.ret S' ⟨rfl, trivial⟩⟩
    | _ => exact plain h2
theorem je_cmpX {fq : List Fq} {a b : Expr} {ma mb : EM Opd} {op : CmpOp} {pos : Pos} (F : FqOk X.K ca fq) (ok : ∀ e ∈ tbl, e.Ok X ca lvl) (hr : Room lvl X.A) (hu : X.A.units + 65 < cLine) (hm : behindInMarks op b = false) (ha : JO X ca ma a) (hb : JO X ca mb b) : JE X ca (twoO ma mb (cmpX fq tbl op)) (.Compare a [op] [b] pos) := fun W tk =>
  PE.imp (pe_cmpR (or_cmpX F ok hr hu) (ha W tk) (hb W tk) hm) fun σ H Q h => twoO_op h
theorem jt_cmpX {fq : List Fq} {a b : Expr} {ma mb : EM Opd} {op : CmpOp} {pos : Pos} (F : FqOk X.K ca fq) (ok : ∀ e ∈ tbl, e.Ok X ca lvl) (hr : Room lvl X.A) (hu : X.A.units + 65 < cLine) (hm : behindInMarks op b = false) (ha : JO X ca ma a) (hb : JO X ca mb b) : JT X ca (boolM (twoO ma mb (cmpX fq tbl op))) (.Compare a [op] [b] pos) := fun W tk =>
  PT.imp (pt_cmpR (or_cmpX F ok hr hu) (ha W tk) (hb W tk) hm) fun σ H Q h => twoO_op (bool_op h)
end
end QB

namespace QB
open PySem L2
/-! ### bool(x), on the machine -/
theorem bool_K {prog : Program} {w : World} {A : Around} {E : Value → Shared → Prop} {s : Shared} {u : Value} {Q : Value → Shared → Prop} (h : wpAny (model prog w) A.in1.in1 (truthy u) (fun b s' => Q (.bool b) s') E s) : wpAny (model prog w) A (call (.type "bool") [u]) Q E s := by
  refine callType_codes (T := "bool") (Bi := Builtin.«object.__init__») (Q₁ := fun r s₁ => ∃ b, r = .bool b ∧ Q r s₁) PySem.F.called_bool (PySem.F.typeCall_bool_1 _) PySem.F.entry_object_init ?_ ?_
  · refine codeAny_of_tree ?_
    show wpAny _ A.in1.in1 (do checkBuiltinCall "bool.__new__" ⟨[.type "bool", u], []⟩; again (.builtin "bool.__new__" ⟨[.type "bool", u], []⟩)) _ _ s
    refine wpAny_bind (wpAny_of_eq (PySem.F.newCall_bool_1 _) (wpAny_pure ⟨plainId_quiet (by decide +kernel) _, codeAny_builtin PySem.F.entry_bool_new ?_⟩))
    rw [Around.under_plainId (by decide +kernel) _]
    have f1 := PySem.F.conv_sub_bool
    repeat (first | with_reducible refine wpAny_mono h (fun b s' hb => ?_) fun _ _ z => z | wp_step)
    all_goals first | exact ⟨_, rfl, hb⟩ | skip
  · rintro obj s₁ ⟨b, rfl, hq⟩
    exact ⟨by trivial, PySem.F.args_object_init_2 _ _, object_init_meets PySem.F.called_bool.init.lookup PySem.F.called_bool.made (by decide) prog w A.in1 _ s₁ ⟨by trivial, rfl, hq⟩⟩
end QB

/-! ### enumerate(t), t a tuple, on the machine -/
namespace QB
open PySem PySem.Spec PyProof.Rows L2
theorem meets_enum_new1 {v : Value} {o : Obj} {H : Heap → Prop} (B : Begins v o H) :
    Meets (Builtin.«enumerate.__new__» ⟨[.type "enumerate", v], []⟩) (fun _ R s => H s.heap ∧
      R (.ok (.ret (.ref (s.heap.push o).objs.size))) { s with heap := (s.heap.push o).push { cls := .type "enumerate", data := .fields #[.none, .bool false, .ref s.heap.objs.size, rawInt 0, .none, .none] } }) :=
  .of_wp fun prog w A R s h => by
    obtain ⟨hp, g, d, tk, os⟩ := s; obtain ⟨h1, h⟩ := h
    have hsub := sub_enumerate
    have q1 : ∀ {A' : Around} {E : Value → Shared → Prop} {Q : Value → Shared → Prop}, Q (.ref hp.objs.size) ⟨hp.push o, g, d, tk, os⟩ → wpAny (model prog w) A' (pyIter v) Q E ⟨hp, g, d, tk, os⟩ :=
      fun q => B.iter prog w _ _ ⟨hp, g, d, tk, os⟩ _ h1 q
    wp_walk using q1
    refine wpAny_stack_any fun st => wpAny_pure ?_
    split
    · rename_i c _ _ _ _ _
      cases (c == Value.type "enumerate")
      · wp_walk using q1
        exact ⟨_, rfl, h⟩
      · wp_walk using q1
        exact ⟨_, rfl, h⟩
    · wp_walk using q1
      exact ⟨_, rfl, h⟩
section
variable {prog : Program} {w : World} {A : Around} {E : Value → Shared → Prop} {s : Shared}
theorem call_enum1 {v : Value} {o : Obj} {H : Heap → Prop} {Q : Value → Shared → Prop} (B : Begins v o H) (h1 : H s.heap)
    (h : ∀ h', IsEnum h' (s.heap.objs.size + 1) s.heap.objs.size 0 .none → h'.get? s.heap.objs.size = some o → h'.objs.size = s.heap.objs.size + 2 →
      (∀ b o, s.heap.get? b = some o → h'.get? b = some o) → Q (.ref (s.heap.objs.size + 1)) { s with heap := h' }) :
    wpAny (model prog w) A (call (.type "enumerate") [v]) Q E s := by
  refine callType_new F.called_enumerate (by decide) (F.typeCall_enumerate_1 _) (F.newCall_enumerate_1 _) (fun obj => F.args_object_init_2 obj _) F.entry_enumerate_new (meets_enum_new1 B) ⟨h1, ?_⟩
  have hz : (s.heap.push o).objs.size = s.heap.objs.size + 1 := Heap.size_push ..
  show _ ∧ _
  rw [hz]
  have he : IsEnum ((s.heap.push o).push { cls := .type "enumerate", data := .fields #[.none, .bool false, .ref s.heap.objs.size, rawInt 0, .none, .none] }) (s.heap.objs.size + 1) s.heap.objs.size 0 .none := by
    have := Heap.get?_push_size (s.heap.push o) (o := { cls := .type "enumerate", data := .fields #[.none, .bool false, .ref s.heap.objs.size, rawInt 0, .none, .none] }) rfl
    rw [hz] at this; exact this
  exact ⟨⟨_, he, rfl⟩, h _ he (Heap.get?_push_of_some _ (Heap.get?_push_size _ B.free)) (by rw [Heap.size_push, hz]) fun b o x => Heap.get?_push_of_some _ (Heap.get?_push_of_some _ x)⟩
end
/-- the tuple at a, each item in a new pair -/
def ItET (K : PySem.W.Frag) (a : Addr) : It :=
  ⟨fun i H => ∃ (xs : List V) (x : V), SqT K H a xs ∧ xs[i]? = some x, fun i H v H' => ∃ T x, v = .ref T ∧ H T = none ∧ H' = upd H T (.tup [.int (i : Nat), x]) ∧ ∀ xs, SqT K H a xs → xs[i]? = some x, fun i H => ∃ xs : List V, SqT K H a xs ∧ xs.length ≤ i⟩
theorem turn_enumT {P : Program} {w : World} {K : PySem.W.Frag} {elts : List Expr} {kk : Nat} {tpos : Pos} (a e it : Addr) (hai : a ≠ it) (hae : a ≠ e) :
    Turn P w K (.Tuple elts kk tpos) (ItET K a) [e, it] e (fun i h => (∃ old, IsEnum h e it ((i : Nat) : Int) old) ∧ h.IsTupleIter it a i ∧ e ≠ it) where
  mem := by simp
  obj := fun i h st b hb => by
    obtain ⟨⟨old, he⟩, ⟨o, ho, hc, hd⟩, _⟩ := st
    have e' : b = e ∨ b = it := by simpa using hb
    rcases e' with z | z
    · rw [z]; exact ⟨_, he, fun v q => nomatch q⟩
    · rw [z]; exact ⟨o, ho, fun v q => by rw [hd] at q; cases q⟩
  keep := fun i h h' st k => let ⟨⟨old, he⟩, hi, hne⟩ := st; ⟨⟨old, k e (by simp) _ he⟩, hi.at fun o q => k it (by simp) o q, hne⟩
  item := by
    intro X hP hw hK hc i pins s σ H E I hf st hg
    subst hP hw hK
    obtain ⟨⟨old, he⟩, hit, hne⟩ := st
    obtain ⟨xs, x, hq, hx⟩ := hg
    obtain ⟨its, rv, p, hz⟩ := I.tuple hq
    obtain ⟨u, hu, ru⟩ := rv.get hx
    have hel : e < s.heap.objs.size := Heap.lt_size he
    have hil : it < s.heap.objs.size := by obtain ⟨_, q, _⟩ := hit; exact Heap.lt_size q
    have D := Draws.tuple (prog := X.prog) (w := X.w) (A := X.A.in1) (I.ok.hd hc) it a hai its.toArray
    have hlt : i < its.toArray.size := by
      have := (List.getElem?_eq_some_iff.mp hu).1
      simpa using this
    refine wpAny_pyNext_enum_itemD D he ⟨hit, p⟩ hlt hne (by simp; exact ⟨hne, Ne.symm hae⟩) fun y h' tk hy ho hit' hT hsz hk => ?_
    have ey : y = u := by
      have : its.toArray[i]? = some u := by simpa using hu
      exact Option.some.inj (hy.symm.trans this)
    subst ey
    refine ⟨_, rfl, wpAny_letOwnedTupleGo_enum (s := { s with heap := h', toks := tk + 1 }) ho fun h'' he' sb => ?_⟩
    have hT2 : h''.get? s.heap.objs.size = some { cls := .type "tuple", data := .seq #[.int i tk, y] } := (sb.2 _ (Nat.ne_of_gt hel)).trans hT
    have new : ObjOk X.prog X.w (upd H s.heap.objs.size (.tup [.int (i : Nat), x])) h'' s.heap.objs.size (.tup [.int (i : Nat), x]) :=
      ⟨by show 2 ≤ sizeLine; decide, [.int i tk, y], .cons ⟨_, rfl⟩ (.cons ru .nil), ⟨_, hT2, rfl, _, rfl⟩⟩
    have I1 : Inv X pins σ (upd H s.heap.objs.size (.tup [.int (i : Nat), x])) { s with heap := h'', toks := tk + 1 } :=
      I.turnedNew (ch := [e, it]) (fun b ob hb q => (sb.2 b (fun z => hb (by simp [z]))).trans (hk b ob (fun z => hb (by simp [z])) (fun z => hb (by simp [z])) q)) hf (Nat.le_refl _) new
    refine ⟨.ref s.heap.objs.size, _, I1, rfl, ⟨_, x, rfl, I.hok.fresh (Nat.le_refl _), rfl, fun ys hy => by rw [I.tuple_inj hy hq]; exact hx⟩, ⟨⟨y, ?_⟩, hit'.1.at fun o q => (sb.2 it (Ne.symm hne)).trans q, hne⟩, fun b hb => ?_⟩
    · have e1 : ((i + 1 : Nat) : Int) = (i : Int) + 1 := by omega
      rw [e1]; exact he'
    · have hb' : b < s.heap.objs.size := by
        have e' : b = e ∨ b = it := by simpa using hb
        rcases e' with z | z
        · rw [z]; exact hel
        · rw [z]; exact hil
      rw [upd_ne (Nat.ne_of_lt hb')]
      exact (hf b hb).1
  done := by
    intro X hP hw hK hc i pins s σ H E I hf st hg
    subst hP hw hK
    obtain ⟨⟨old, he⟩, hit, hne⟩ := st
    obtain ⟨xs, hq, hx⟩ := hg
    obtain ⟨its, rv, p, hz⟩ := I.tuple hq
    obtain ⟨f0, f1, f2, f3, f4, f5⟩ := hf it (by simp)
    have hl := rv.length
    have hT : s.TypeIs (.ref e) "enumerate" := ⟨_, he, rfl⟩
    have nx : its.toArray[i]? = none := by simp; omega
    unfold pyNext
    refine wpAny_bind (wpAny_attempt (wpAny_callSpecial?_slot (name := Str.ofString "__next__") hT F.slot_enumerate_next
      (wpAny_call_entry F.slot_enumerate_next hT F.entry_enumerate_next ?_ (F.args_enumerate_next_1 _))))
    show wpAny _ _ (field (.ref e) 2 >>= _) _ _ _
    refine wpAny_bind (wpAny_field he rfl (x := .ref it) rfl ?_)
    refine wpAny_bind (wpAny_nextOf_tuple_end (I.ok.hd hc) hit p nx fun h' y he' hy' => ?_)
    obtain ⟨o, ho, hcl⟩ := hy'
    refine wpAny_bind (wpAny_isInstance (T := "StopIteration") (b := true) ⟨o, ho, hcl⟩ isSubtype_stop ?_)
    exact wpAny_pure ⟨rfl, I.turned (t' := s.toks) (fun b o hb q => he' b o hb q) f0 f1 f3 f4 f5⟩
  self := fun A i s Q E st h => let ⟨⟨_, he⟩, _⟩ := st; wpAny_pyIter_enum he h
def iEnumT (K : PySem.W.Frag) (ta : TA) : TI := fun σ H R => ta σ H fun vs H1 => ∃ a xs, vs = [.ref a] ∧ SqT K H1 a xs ∧ R (ItET K a) H1
theorem pi_enumT {X : Cx} {e : Expr} {ta : TA} {p pos tpos : Pos} {elts : List Expr} {kk : Nat} (hg : Gl X "enumerate") (hm : X.mg "enumerate" = none) (ha : PA X [e] ta) (hs : starEach [e] X.env = [(false, eval e X.env)]) :
    PI X (.Tuple elts kk tpos) (.Call (.Name "enumerate" p) [e] [] pos) (iEnumT X.K ta) := by
  refine ⟨fun pins s σ H R I h => ?_⟩
  refine Call_ (ld_blt I hg hm boot_enumerate (PyProof.Rows.callWith_type1 (thn (ha.run pos pins s σ H _ I h) fun us s1 ⟨vs, H1, I1, r1, q1⟩ => ?_) hs rfl))
  obtain ⟨a, xs, ex, hq, q⟩ := q1
  subst ex
  cases r1 with
  | cons r rr =>
    cases rr
    cases r
    obtain ⟨its, rv, p', hz⟩ := I1.tuple hq
    have hal : a < s1.heap.objs.size := by obtain ⟨_, q', _⟩ := p'; exact Heap.lt_size q'
    refine call_enum1 (begins_tuple a its.toArray) p' fun h' he hit hsz hk => wpAny_pyIter_enum he ?_
    have I2 : Inv X pins σ H1 { s1 with heap := h' } := I1.kept (t' := s1.toks) hk
    refine ⟨s1.heap.objs.size + 1, [s1.heap.objs.size + 1, s1.heap.objs.size], _, _, H1, rfl, I2, turn_enumT a (s1.heap.objs.size + 1) s1.heap.objs.size (Nat.ne_of_lt hal) (Nat.ne_of_lt (Nat.lt_succ_of_lt hal)), ⟨⟨.none, he⟩, ⟨_, hit, rfl, rfl⟩, Nat.succ_ne_self _⟩, fun b hb => ?_, q⟩
    have e' : b = s1.heap.objs.size + 1 ∨ b = s1.heap.objs.size := by simpa using hb
    have hle : s1.heap.objs.size ≤ b := by
      rcases e' with z | z
      · rw [z]; exact Nat.le_add_right _ _
      · rw [z]; exact Nat.le_refl _
    exact I1.fpOk hle (I1.hok.fresh hle)
end QB

namespace QB
open PySem L2
/-! ### enumerate, zip -/
section
variable {X : Cx} {ca : CA} {K : PySem.W.Frag}
theorem pair_new {c : Fx} {M : Addr → Prop} {σ : St} {H : Hp} {e : En} {T : Addr} {p q : PV} {x y : V} (S : Sim K ca c M σ H e) (hT : H T = none) (rp : Rep K ca (hid H M) p x) (rq : Rep K ca (hid H M) q y) :
    Sim K ca c M σ (upd H T (.tup [x, y])) e ∧ Same (hid H M) (hid (upd H T (.tup [x, y])) M) ∧ (∀ a, (H a).isSome = true → upd H T (.tup [x, y]) a = H a) ∧ Rep K ca (hid (upd H T (.tup [x, y])) M) (.tup [p, q]) (.ref T) := by
  have sm := same_upd (M := M) (o := HO.tup [x, y]) hT
  refine ⟨S.alloc hT, sm, fun a ha => ?_, ?_⟩
  · by_cases h : a = T
    · subst h; rw [hT] at ha; cases ha
    · exact upd_ne h
  · exact (relV.newT (c := c) (ps := [p, q]) (vs := [x, y]) S hT ⟨x, [y], rfl, rp, y, [], rfl, rq, rfl⟩).1
def enumP (i : Nat) : List PV → List PV
  | [] => []
  | x :: xs => .tup [.int i, x] :: enumP (i + 1) xs
theorem enumP_len : ∀ {xs : List PV} {i : Nat}, (enumP i xs).length = xs.length
  | [], _ => rfl
  | _ :: xs, i => by simp [enumP, enumP_len (xs := xs)]
theorem enumP_get : ∀ {xs : List PV} {i j : Nat} {p : PV}, xs[j]? = some p → (enumP i xs)[j]? = some (.tup [.int (i + j : Nat), p])
  | [], _, _, _, h => by cases h
  | x :: xs, i, 0, p, h => by cases h; rfl
  | x :: xs, i, j + 1, p, h => by
    have h' : xs[j]? = some p := h
    have := enumP_get (i := i + 1) h'
    show (enumP (i + 1) xs)[j]? = _
    rw [this]
    have e : i + 1 + j = i + (j + 1) := by omega
    rw [e]
def enm : List PV → Option (List PV)
  | [.lst xs] => some (enumP 0 xs)
  | [.rdl xs] => some (enumP 0 xs)
  | [.tup xs] => some (enumP 0 xs)
  | _ => none
theorem it_enum {G1 : Hp} {a : Addr} {xs : List PV} {vs : List V} (sq : ∀ H M, Same G1 (hid H M) → SqL K H a vs) (ra : Reps K ca G1 xs vs) : ItOk K ca G1 (Ite K a) (enumP 0 xs) where
  stop := fun H M s => ⟨vs, sq H M s, by rw [ra.length, enumP_len]; exact Nat.le_refl _⟩
  go := fun H M i hi s => by
    have hl : i < vs.length := by rw [ra.length]; rw [enumP_len] at hi; exact hi
    exact ⟨vs, vs[i], sq H M s, by simp [hl]⟩
  yld := fun H M i x H' hi s y => by
    obtain ⟨T, w, rfl, hT, rfl, h⟩ := y
    obtain ⟨p, hp, rp⟩ := ra.getV (h vs (sq H M s))
    refine ⟨_, enumP_get hp, fun c σ e S => ?_⟩
    have := pair_new (p := .int (0 + i : Nat)) (x := .int (i : Nat)) S hT (by rw [Nat.zero_add]; rfl) (rp.mono s)
    exact this
theorem it_enumT {G1 : Hp} {a : Addr} {xs : List PV} {vs : List V} (ha : SqT K G1 a vs) (ra : Reps K ca G1 xs vs) : ItOk K ca G1 (ItET K a) (enumP 0 xs) where
  stop := fun H M s => ⟨vs, Same.sqT hid_same (Same.sqT s ha), by rw [ra.length, enumP_len]; exact Nat.le_refl _⟩
  go := fun H M i hi s => by
    have hl : i < vs.length := by rw [ra.length]; rw [enumP_len] at hi; exact hi
    exact ⟨vs, vs[i], Same.sqT hid_same (Same.sqT s ha), by simp [hl]⟩
  yld := fun H M i x H' hi s y => by
    obtain ⟨T, w, rfl, hT, rfl, h⟩ := y
    obtain ⟨p, hp, rp⟩ := ra.getV (h vs (Same.sqT hid_same (Same.sqT s ha)))
    refine ⟨_, enumP_get hp, fun c σ e S => ?_⟩
    have := pair_new (p := .int (0 + i : Nat)) (x := .int (i : Nat)) S hT (by rw [Nat.zero_add]; rfl) (rp.mono s)
    exact this
/-- enumerate(m): m's value stands still meanwhile -/
def itE (m : EM RV) : EM (List PV) := m.bind fun r => EM.opt (enm [r.pv])
theorem ji_enum {elts : List Expr} {kk : Nat} {tpos : Pos} {a : Expr} {m : EM RV} {p pos' : Pos} (hgl : Gl X "enumerate") (hm : X.mg "enumerate" = none) (hs : isStar a = false) (ha : JE X ca m a) : JI X ca (itE m) (.Tuple elts kk tpos) (.Call (.Name "enumerate" p) [a] [] pos') := fun W tk => by
  have hA : JA X ca (opdsCons (opdM m) opdsNil) [a] := ja_cons hs (jo_of ha) ja_nil
  refine PI.imp (PI.or (pi_enum hgl hm (hA W tk) (star_cons hs)) (pi_enumT hgl hm (hA W tk) (star_cons hs))) fun σ H R ⟨c, M, e, S, q⟩ => ?_
  unfold RdAt itE EM.bind at q
  cases z : m e with
  | bad => simp only [z] at q
  | exc x e' =>
    simp only [z] at q
    refine .inl ⟨c, M, e, S, ?_⟩
    unfold RdAt opdsCons opdM EM.bind
    simp only [z]
    exact fun cls d H' M' S' r => q cls d H' M' S' r
  | ok r e' =>
    simp only [z] at q
    have fin : ∀ {P : List V → Hp → Prop}, (∀ v H' M', Sim X.K ca c M' σ H' e' → Rep X.K ca (hid H' M') r.pv v → P [v] H') → Rd X.K ca (opdsCons (opdM m) opdsNil) (relOs X.K ca) W σ H P := fun {P} k => by
      refine ⟨c, M, e, S, ?_⟩
      unfold RdAt opdsCons opdM opdsNil EM.bind EM.ret
      simp only [z]
      intro vs H' M' S' rr
      cases rr with
      | cons r1 t =>
        cases t
        exact k _ H' M' S' r1
    cases zp : r.pv with
    | lst xs =>
      simp only [zp, enm, EM.opt, EM.ret] at q
      refine .inl (fin fun v H1 M1 S1 rv => ?_)
      rw [zp] at rv
      obtain ⟨a, vs, rfl, ha, ra⟩ := rv
      exact ⟨a, vs, rfl, SqL.of (hid_same _ _ ha), q _ H1 M1 S1 (it_enum (fun H M s => SqL.of (hid_same _ _ (s _ _ ha))) ra)⟩
    | rdl xs =>
      simp only [zp, enm, EM.opt, EM.ret] at q
      refine .inl (fin fun v H1 M1 S1 rv => ?_)
      rw [zp] at rv
      obtain ⟨a, vs, rfl, ha, ra⟩ := rv
      exact ⟨a, vs, rfl, Same.seq hid_same ha, q _ H1 M1 S1 (it_enum (fun H M s => Same.seq hid_same (Same.seq s ha)) ra)⟩
    | tup xs =>
      simp only [zp, enm, EM.opt, EM.ret] at q
      refine .inr (fin fun v H1 M1 S1 rv => ?_)
      rw [zp] at rv
      obtain ⟨a, vs, rfl, ha, ra⟩ := rv
      exact ⟨a, vs, rfl, Same.sqT hid_same ha, q _ H1 M1 S1 (it_enumT ha ra)⟩
    | _ => simp only [zp, enm, EM.opt, EM.bad] at q
/-- zip(a, b): two lists, or two tuples -/
def zipP : List PV → List PV → List PV
  | x :: xs, y :: ys => .tup [x, y] :: zipP xs ys
  | _, _ => []
theorem zipP_len : ∀ {xs ys : List PV}, (zipP xs ys).length = min xs.length ys.length
  | [], _ => by simp [zipP]
  | _ :: _, [] => by simp [zipP]
  | x :: xs, y :: ys => by simp [zipP, zipP_len (xs := xs)]
theorem zipP_get : ∀ {xs ys : List PV} {j : Nat} {p q : PV}, xs[j]? = some p → ys[j]? = some q → (zipP xs ys)[j]? = some (.tup [p, q])
  | [], _, _, _, _, h, _ => by cases h
  | _ :: _, [], _, _, _, _, h => by cases h
  | x :: xs, y :: ys, 0, p, q, h, h' => by cases h; cases h'; rfl
  | x :: xs, y :: ys, j + 1, p, q, h, h' => zipP_get (xs := xs) (ys := ys) (j := j) h h'
def zpP : List PV → Option (List PV)
  | [.lst xs, .lst ys] => some (zipP xs ys)
  | [.lst xs, .rdl ys] => some (zipP xs ys)
  | [.rdl xs, .lst ys] => some (zipP xs ys)
  | [.tup xs, .tup ys] => some (zipP xs ys)
  | _ => none
def itZ (m : EM (List PV)) : EM (List PV) := m.bind fun ps => EM.opt (zpP ps)
theorem it_zip {G1 : Hp} {a b : Addr} {xs ys : List PV} {vs ws : List V} (sq : ∀ H M, Same G1 (hid H M) → SqL K H a vs) (sq' : ∀ H M, Same G1 (hid H M) → SqL K H b ws) (ra : Reps K ca G1 xs vs) (rb : Reps K ca G1 ys ws) : ItOk K ca G1 (Itz K a b) (zipP xs ys) where
  stop := fun H M s => ⟨vs, ws, sq H M s, sq' H M s, by rw [ra.length, rb.length, zipP_len]; omega⟩
  go := fun H M i hi s => by
    rw [zipP_len] at hi
    have hl : i < vs.length := by rw [ra.length]; omega
    have hl' : i < ws.length := by rw [rb.length]; omega
    exact ⟨vs, ws, vs[i], ws[i], sq H M s, sq' H M s, by simp [hl], by simp [hl']⟩
  yld := fun H M i x H' hi s y => by
    obtain ⟨T, w, w', rfl, hT, rfl, h, h'⟩ := y
    obtain ⟨p, hp, rp⟩ := ra.getV (h vs (sq H M s))
    obtain ⟨p', hp', rp'⟩ := rb.getV (h' ws (sq' H M s))
    exact ⟨_, zipP_get hp hp', fun c σ e S => pair_new S hT (rp.mono s) (rp'.mono s)⟩
theorem it_zipT {G1 : Hp} {a b : Addr} {xs ys : List PV} {vs ws : List V} (sq : ∀ H M, Same G1 (hid H M) → SqT K H a vs) (sq' : ∀ H M, Same G1 (hid H M) → SqT K H b ws) (ra : Reps K ca G1 xs vs) (rb : Reps K ca G1 ys ws) : ItOk K ca G1 (RZ.ItzT K a b) (zipP xs ys) where
  stop := fun H M s => ⟨vs, ws, sq H M s, sq' H M s, by rw [ra.length, rb.length, zipP_len]; omega⟩
  go := fun H M i hi s => by
    rw [zipP_len] at hi
    have hl : i < vs.length := by rw [ra.length]; omega
    have hl' : i < ws.length := by rw [rb.length]; omega
    exact ⟨vs, ws, vs[i], ws[i], sq H M s, sq' H M s, by simp [hl], by simp [hl']⟩
  yld := fun H M i x H' hi s y => by
    obtain ⟨T, w, w', rfl, hT, rfl, h, h'⟩ := y
    obtain ⟨p, hp, rp⟩ := ra.getV (h vs (sq H M s))
    obtain ⟨p', hp', rp'⟩ := rb.getV (h' ws (sq' H M s))
    exact ⟨_, zipP_get hp hp', fun c σ e S => pair_new S hT (rp.mono s) (rp'.mono s)⟩
theorem ji_zip {elts : List Expr} {kk : Nat} {tpos : Pos} {a b : Expr} {m : EM (List PV)} {p pos' : Pos} (hgl : Gl X "zip") (hm : X.mg "zip" = none) (hs : isStar a = false) (hs' : isStar b = false) (h : JV X ca m [a, b]) : JI X ca (itZ m) (.Tuple elts kk tpos) (.Call (.Name "zip" p) [a, b] [] pos') := fun W tk =>
  PI.imp (RZ.pi_zipA hgl hm (h W tk) (star_cons hs) (by rw [star_cons hs']; rfl)) fun σ H R ⟨c, M, e, S, q⟩ => RdAt.bind q S fun ps vs H1 M1 e1 S1 _ _ r q1 => by
    obtain ⟨xs, hx, q3⟩ := q1.opt
    unfold zpP at hx
    have sl : ∀ {a : Addr} {vs : List V} {H M}, Same (hid H1 M1) (hid H M) → hid H1 M1 a = some (.lst vs) → SqL X.K H a vs := fun s ha => SqL.of (hid_same _ _ (s _ _ ha))
    have sr : ∀ {a : Addr} {vs : List V} {H M}, Same (hid H1 M1) (hid H M) → SqL X.K (hid H1 M1) a vs → SqL X.K H a vs := fun s ha => Same.seq hid_same (Same.seq s ha)
    split at hx
    · cases hx
      obtain ⟨v, _, rfl, ⟨a1, us, rfl, ha, ra⟩, w, _, rfl, ⟨b1, ws, rfl, hb, rb⟩, rfl⟩ := r
      exact ⟨a1, b1, us, ws, rfl, .inl ⟨SqL.of (hid_same _ _ ha), SqL.of (hid_same _ _ hb), q3.ret S1 (it_zip (fun H M s => sl s ha) (fun H M s => sl s hb) ra rb)⟩⟩
    · cases hx
      obtain ⟨v, _, rfl, ⟨a1, us, rfl, ha, ra⟩, w, _, rfl, ⟨b1, ws, rfl, hb, rb⟩, rfl⟩ := r
      exact ⟨a1, b1, us, ws, rfl, .inl ⟨SqL.of (hid_same _ _ ha), Same.seq hid_same hb, q3.ret S1 (it_zip (fun H M s => sl s ha) (fun H M s => sr s hb) ra rb)⟩⟩
    · cases hx
      obtain ⟨v, _, rfl, ⟨a1, us, rfl, ha, ra⟩, w, _, rfl, ⟨b1, ws, rfl, hb, rb⟩, rfl⟩ := r
      exact ⟨a1, b1, us, ws, rfl, .inl ⟨Same.seq hid_same ha, SqL.of (hid_same _ _ hb), q3.ret S1 (it_zip (fun H M s => sr s ha) (fun H M s => sl s hb) ra rb)⟩⟩
    · cases hx
      obtain ⟨v, _, rfl, ⟨a1, us, rfl, ha, ra⟩, w, _, rfl, ⟨b1, ws, rfl, hb, rb⟩, rfl⟩ := r
      exact ⟨a1, b1, us, ws, rfl, .inr ⟨Same.sqT hid_same ha, Same.sqT hid_same hb, q3.ret S1 (it_zipT (fun H M s => Same.sqT hid_same (Same.sqT s ha)) (fun H M s => Same.sqT hid_same (Same.sqT s hb)) ra rb)⟩⟩
    · cases hx
end
/-! ### len, str, bool: own classes too -/
section
variable {X : Cx} {ca : CA} {lvl : Nat} {tbl : List MethE}
def rSemNO (K : PySem.W.Frag) (ca : CA) (W : WX) (f : List Opd → EM RV) : List V → Hp → VK → Prop := fun vs H Q => ∃ c c' M σ e os, Sim K ca c M σ H e ∧ relOs K ca c' M σ H e os vs ∧ RdAt K ca c (f os) (relV K ca) W e σ Q
def bltO (ms : EM (List Opd)) (f : List Opd → EM RV) : EM RV := ms.bind f
theorem bltO_op {W : WX} {ms : EM (List Opd)} {f : List Opd → EM RV} {σ : St} {H : Hp} {Q : VK} (h : Rd X.K ca (bltO ms f) (relV X.K ca) W σ H Q) : tCB (rSemNO X.K ca W f) (Rd X.K ca ms (relOs X.K ca) W) σ H Q := by
  obtain ⟨c, M, e, S, q⟩ := h
  exact RdAt.bind q S fun os vs H1 M1 e1 S1 _ _ r1 q1 => ⟨c, c, M1, σ, e1, os, S1, relOs.mono r1 (Same.refl _), q1⟩
theorem je_bltO {x : Str} {id : String} {e : Expr} {ms : EM (List Opd)} {f : List Opd → EM RV} {p pos : Pos} (hc : ∀ W, CallR X (.builtin id) (rSemNO X.K ca W f)) (hg : Gl X x) (hm : X.mg x = none) (hv : bootBuiltins x = some (.builtin id))
    (hn : x ≠ "__name__") (hd : (x == ("__debug__" : Str)) = false) (hs : isStar e = false) (h : JA X ca ms [e]) : JE X ca (bltO ms f) (.Call (.Name x p) [e] [] pos) := fun W tk =>
  PE.imp (pe_callB (hc W) hg hm hv (h W tk) hn hd (star_cons hs) rfl) fun σ H Q h => bltO_op h
theorem je_btyO {x : Str} {id : String} {e : Expr} {ms : EM (List Opd)} {f : List Opd → EM RV} {p pos : Pos} (hc : ∀ W, CallR X (.type id) (rSemNO X.K ca W f)) (hg : Gl X x) (hm : X.mg x = none) (hv : bootBuiltins x = some (.type id))
    (hn : x ≠ "__name__") (hd : (x == ("__debug__" : Str)) = false) (hs : isStar e = false) (h : JA X ca ms [e]) : JE X ca (bltO ms f) (.Call (.Name x p) [e] [] pos) := fun W tk =>
  PE.imp (pe_callTy (hc W) hg hm hv (h W tk) hn hd (star_cons hs) rfl) fun σ H Q h => bltO_op h
def intR {α : Type} (m : EM RV) (f : Int → EM α) : EM α := m.bind fun r => match r.pv with
  | .int k => f k
  | _ => EM.bad
def strR {α : Type} (m : EM RV) (f : Str → EM α) : EM α := m.bind fun r => match r.pv with
  | .str k => f k
  | _ => EM.bad
theorem RdAt.intR {α β : Type} {K : PySem.W.Frag} {c : Fx} {m : EM RV} {f : Int → EM α} {rel : RelT α β} {W : WX} {e : En} {σ : St} {Q : β → Hp → Prop} (h : RdAt K ca c (QB.intR m f) rel W e σ Q) :
    RdAt K ca c m (relV K ca) W e σ (fun v H => ∃ k, v = .int k ∧ ∃ M' e', Sim K ca c M' σ H e' ∧ RdAt K ca c (f k) rel W e' σ Q) := by
  unfold RdAt QB.intR EM.bind at h
  unfold RdAt
  cases z : m e with
  | ok r e' =>
    simp only [z] at h
    intro v H' M' S' rv
    cases zp : r.pv with
    | int k =>
      simp only [zp] at h
      have hv := rv.1
      rw [zp] at hv
      cases hv
      exact ⟨k, rfl, M', e', S', h⟩
    | _ => simp only [zp] at h; exact False.elim h
  | exc x e' => simp only [z] at h; exact h
  | bad => simp only [z] at h
theorem RdAt.strR {α β : Type} {K : PySem.W.Frag} {c : Fx} {m : EM RV} {f : Str → EM α} {rel : RelT α β} {W : WX} {e : En} {σ : St} {Q : β → Hp → Prop} (h : RdAt K ca c (QB.strR m f) rel W e σ Q) :
    RdAt K ca c m (relV K ca) W e σ (fun v H => ∃ k, v = .str k ∧ ∃ M' e', Sim K ca c M' σ H e' ∧ RdAt K ca c (f k) rel W e' σ Q) := by
  unfold RdAt QB.strR EM.bind at h
  unfold RdAt
  cases z : m e with
  | ok r e' =>
    simp only [z] at h
    intro v H' M' S' rv
    cases zp : r.pv with
    | str k =>
      simp only [zp] at h
      have hv := rv.1
      rw [zp] at hv
      cases hv
      exact ⟨k, rfl, M', e', S', h⟩
    | _ => simp only [zp] at h; exact False.elim h
  | exc x e' => simp only [z] at h; exact h
  | bad => simp only [z] at h
def lenX (tbl : List MethE) : List Opd → EM RV
  | [a] => (lookM a).bind fun x => match x with
    | .ins c _ _ => intR (dunK tbl "__len__" [a] c) fun n => if decide (0 ≤ n ∧ n < 2 ^ 63) then EM.ret (.val (.int n)) else EM.bad
    | x => bLen [x]
  | _ => EM.bad
theorem cs_lenX (ok : ∀ e ∈ tbl, e.Ok X ca lvl) (hr : Room lvl X.A) (W : WX) : CallR X (.builtin "len") (rSemNO X.K ca W (lenX tbl)) := by
  intro pins s σ0 H vs us Q J r ⟨c, c', M, σ, e, os, S, ro, h⟩
  match os, h, ro with
  | [], h, _ => exact False.elim h
  | _ :: _ :: _, h, _ => exact False.elim h
  | [a], h, ro =>
    obtain ⟨v, rfl, ra⟩ := pair1 ro
    cases r with
    | cons r1 t =>
    cases t
    obtain ⟨x, hxl, rx, h1⟩ := RdAt.lookM h S ra
    cases x with
    | ins cn ks xs =>
      dsimp only at h1
      obtain ⟨f, cl, me, _, run, _⟩ := (dun_at ok (RdAt.intR h1) S (.cons ra .nil)).run hr
      obtain ⟨a1, dx, fs, rfl, ha, _⟩ := rx
      cases r1
      obtain ⟨ox, od, L⟩ := ins_at J ha
      obtain ⟨m, fr⟩ := J.fr
      refine PySem.W.len_K fr J.ok.mod.kin L me.at_ me.fn (wpAny_mono (run (E' := X.xe) J (.cons rfl .nil)) (fun z s' hz => ?_) fun _ _ z => z)
      obtain ⟨z', H', J', rz, k, rfl, M', e', S', q'⟩ := hz
      obtain ⟨t, rfl⟩ := rz
      obtain ⟨hk, q2⟩ := RdAt.ite q'
      obtain ⟨k1, k2⟩ := of_decide_eq_true hk
      exact ⟨⟨k1, k2⟩, .int k, H', J'.tok _, ⟨_, rfl⟩, q2.ret S' ⟨rfl, trivial⟩⟩
    | _ => exact cs_len W pins s σ0 H _ _ Q J (.cons r1 .nil) ⟨c, M, σ, e, [_], S, .cons rx .nil, h1⟩
def strX (tbl : List MethE) : List Opd → EM RV
  | [a] => (lookM a).bind fun x => match x with
    | .ins c _ _ => strR (dunK tbl "__str__" [a] c) fun n => EM.ret (.val (.str n))
    | x => bStr [x]
  | _ => EM.bad
theorem cs_strX (ok : ∀ e ∈ tbl, e.Ok X ca lvl) (hr : Room lvl X.A) (hu : X.A.units + 65 < cLine) (W : WX) : CallR X (.type "str") (rSemNO X.K ca W (strX tbl)) := by
  intro pins s σ0 H vs us Q J r ⟨c, c', M, σ, e, os, S, ro, h⟩
  match os, h, ro with
  | [], h, _ => exact False.elim h
  | _ :: _ :: _, h, _ => exact False.elim h
  | [a], h, ro =>
    obtain ⟨v, rfl, ra⟩ := pair1 ro
    cases r with
    | cons r1 t =>
    cases t
    obtain ⟨x, hxl, rx, h1⟩ := RdAt.lookM h S ra
    cases x with
    | ins cn ks xs =>
      dsimp only at h1
      obtain ⟨f, cl, me, _, _, run⟩ := (dun_at ok (RdAt.strR h1) S (.cons ra .nil)).run hr
      obtain ⟨a1, dx, fs, rfl, ha, _⟩ := rx
      cases r1
      obtain ⟨ox, od, L⟩ := ins_at J ha
      refine PySem.W.kso_call (by show X.A.units + 1 + 1 < cLine; omega) J.kIn L me.at_ me.fn (wpAny_mono (run (E' := X.xe) J (.cons rfl .nil)) (fun z s' hz => ?_) fun _ _ z => z)
      obtain ⟨z', H', J', rz, k, rfl, M', e', S', q'⟩ := hz
      obtain ⟨t, rfl⟩ := rz
      exact ⟨.str k, H', J', ⟨_, rfl⟩, q'.ret S' ⟨rfl, trivial⟩⟩
    | _ => exact cs_str W pins s σ0 H _ _ Q J (.cons r1 .nil) ⟨c, M, σ, e, [_], S, .cons rx .nil, h1⟩
def boolX (tbl : List MethE) : List Opd → EM RV
  | [a] => (lookM a).bind fun x => match x with
    | .ins c _ _ => boolR (dunK tbl "__bool__" [a] c) retB
    | .tup xs => retB (!xs.isEmpty)
    | .bl b => retB b
    | _ => EM.bad
  | _ => EM.bad
theorem cs_boolX (ok : ∀ e ∈ tbl, e.Ok X ca lvl) (hr : Room lvl X.A) (W : WX) : CallR X (.type "bool") (rSemNO X.K ca W (boolX tbl)) := by
  intro pins s σ0 H vs us Q J r ⟨c, c', M, σ, e, os, S, ro, h⟩
  match os, h, ro with
  | [], h, _ => exact False.elim h
  | _ :: _ :: _, h, _ => exact False.elim h
  | [a], h, ro =>
    obtain ⟨v, rfl, ra⟩ := pair1 ro
    cases r with
    | cons r1 t =>
    cases t
    obtain ⟨x, hxl, rx, h1⟩ := RdAt.lookM h S ra
    cases x with
    | ins cn ks xs =>
      dsimp only at h1
      obtain ⟨f, cl, me, _, _, run⟩ := (dun_at ok (RdAt.boolR h1) S (.cons ra .nil)).run hr
      obtain ⟨a1, dx, fs, rfl, ha, _⟩ := rx
      cases r1
      obtain ⟨ox, od, L⟩ := ins_at J ha
      obtain ⟨m, fr⟩ := J.fr
      refine bool_K (PySem.W.truthy_K fr J.ok.mod.kin L me.at_ me.fn (wpAny_mono (run (E' := X.xe) J (.cons rfl .nil)) (fun z s' hz => ?_) fun _ _ z => z))
      obtain ⟨z', H', J', rz, k, rfl, M', e', S', q'⟩ := hz
      cases (show z = Value.bool k from rz)
      exact ⟨.bl k, H', J', rfl, q'.ret S' ⟨rfl, trivial⟩⟩
    | tup xs =>
      dsimp only at h1
      obtain ⟨a1, ws, rfl, ha, rs⟩ := rx
      cases r1
      obtain ⟨its, rv, pl, hz⟩ := J.tuple (Same.sqT hid_same ha)
      have hl := line63
      have hs : sizeLine = 16777216 := sizeLine_eq
      have hlen := rv.length
      refine bool_K (PyProof.Rows.truthy_tuple pl (by simp only [List.size_toArray]; omega) ⟨.bl _, H, J.tok _, rfl, ?_⟩)
      rw [isEmpty_of rv, isEmpty_len rs.length.symm]
      exact h1.ret S ⟨rfl, trivial⟩
    | bl b =>
      dsimp only at h1
      cases rx
      cases r1
      exact bool_K (wpAny_truthy_bool ⟨.bl b, H, J, rfl, h1.ret S ⟨rfl, trivial⟩⟩)
    | _ => exact False.elim h1
end
end QB

namespace QB
open PySem L2
/-! ### match: texts -/
def selM : List (Str × SM) → Str → SM
  | [], _ => skipM
  | (y, b) :: cs, x => fun e => match eqP (.str x) (.str y) with
    | some true => b e
    | some false => selM cs x e
    | none => .bad
def matM (m : EM RV) (cs : List (Str × SM)) : SM := thenS m fun r e => match r.pv with
  | .str x => selM cs x e
  | _ => .bad
section
variable {X : Cx} {ca : CA} {lvl : Nat} {tbl : List MethE}
inductive CasesAt (X : Cx) (ca : CA) : List MatchCase → List (Str × SM) → Prop
  | nil : CasesAt X ca [] []
  | cons {y : Str} {k : Nat} {p pos : Pos} {body : List Stmt} {m : SM} {cs : List MatchCase} {ms : List (Str × SM)} : JSs X ca m body → CasesAt X ca cs ms → CasesAt X ca (⟨.MatchValue (.Constant (.str y) k p) pos, none, body⟩ :: cs) ((y, m) :: ms)
theorem cases_ok (hu : X.A.units + 65 < cLine) {W : WX} (tk : Takes X W) : ∀ {cs : List MatchCase} {ms : List (Str × SM)}, CasesAt X ca cs ms → ∀ {first : Bool} {pins : List (Addr × Obj)} {s : Shared} {σ : St} {H : Hp} {D : Ends} {c : Fx} {M : Addr → Prop} {e : En} {x : Str} {u : Value},
    Inv X pins σ H s → RelV (.str x) u → Sim X.K ca c M σ H e → SRdAt X.K ca c (selM ms x) W e D → wpAny (model X.prog X.w) X.A (matchCases cs X.env u first) (SP X pins D) X.xe s
  | _, _, .nil, first, pins, s, σ, H, D, c, M, e, x, u, J, r, S, q => wpAny_matchCases_nil ⟨σ, H, J, q σ H M S⟩
  | _, _, .cons (y := y) (k := kk) (p := p) (m := m) (ms := ms) hb ht, first, pins, s, σ, H, D, c, M, e, x, u, J, r, S, q => by
    refine wpAny_matchCases_cons (wpAny_matchPattern_Value ?_)
    have js : JE X ca (EM.ret (.val (.str y))) (.Constant (.str y) kk p) := je_str
    refine thn ((js W tk).run pins s σ H (fun v H' => v = .str y ∧ ∃ M', Sim X.K ca c M' σ H' e) J ⟨c, M, e, S, fun v H' M' S' rv => ⟨rv.1, M', S'⟩⟩) fun w s1 ⟨v1, H1, J1, r1, ev, M1, S1⟩ => ?_
    subst ev
    unfold SRdAt selM at q
    cases z : eqP (.str x) (.str y) with
    | none => simp only [z] at q
    | some b =>
    refine thn (or_cmp (W := W) hu .Eq pins s1 σ H1 (.str x) (.str y) u w (fun v H' => v = .bl b ∧ ∃ M', Sim X.K ca c M' σ H' e) J1 r r1 ⟨c, M1, σ, e, .str x, .str y, S1, rfl, rfl, ?_⟩) fun z' s2 ⟨v2, H2, J2, r2, ev, M2, S2⟩ => ?_
    · show RdAt X.K ca c (opEq (.str x) (.str y)) (relV X.K ca) W e σ _
      unfold opEq
      rw [z]
      exact fun v H' M' S' rv => ⟨rv.1, M', S'⟩
    · subst ev
      cases (show z' = Value.bool b from r2)
      refine wpAny_truthy_bool ?_
      cases b with
      | true =>
        simp only [z] at q
        rw [if_pos rfl]
        refine wpAny_assignInOrder_none ?_
        exact (hb W tk).run pins s2 σ H2 D J2 ⟨c, M2, e, S2, q⟩
      | false =>
        simp only [z] at q
        rw [if_neg (by decide)]
        exact cases_ok hu tk ht J2 r S2 q
theorem js_match {a : Expr} {m : EM RV} {cs : List MatchCase} {ms : List (Str × SM)} {pos : Pos} (hu : X.A.units + 65 < cLine) (h : JE X ca m a) (hc : CasesAt X ca cs ms) : JS X ca (matM m ms) (.Match a cs pos) := fun W tk => by
  refine ⟨fun pins s σ H D J ⟨c, M, e, S, q⟩ => ?_⟩
  refine wpAny_Match ?_
  have go : Rd X.K ca m (relV X.K ca) W σ H (fun v H1 => ∃ x, v = .str x ∧ ∃ M1 e1, Sim X.K ca c M1 σ H1 e1 ∧ SRdAt X.K ca c (selM ms x) W e1 D) := SRdAt.thenS q S fun r v H1 M1 e1 S1 _ rr q1 => by
    unfold SRdAt at q1
    dsimp only at q1
    have rv := rr.1
    cases zp : r.pv with
    | str x =>
      rw [zp] at rv
      simp only [zp] at q1
      exact ⟨x, rv, M1, e1, S1, q1⟩
    | _ => simp only [zp] at q1
  refine thn ((h W tk).run pins s σ H _ J go) fun u s1 ⟨v, H1, J1, r1, x, ev, M1, e1, S1, q1⟩ => ?_
  subst ev
  exact cases_ok hu tk hc J1 r1 S1 q1
/-! ### name op= e, own classes -/
def ipN (op : Operator) : Bool := op.info.2 == "and" || op.info.2 == "or" || op.info.2 == "sub" || op.info.2 == "xor"
def ipX (fq : List Fq) (tbl : List MethE) (op : Operator) (a b : Opd) : EM RV := (lookM a).bind fun x => (lookM b).bind fun y => match x with
  | .ins c _ _ => (match y with
    | .ins c' _ _ => if decide (c' = c) && (dunT fq c && ipN op) then dunK tbl (PySem.dunder op.info.2) [a, b] c else EM.bad
    | _ => EM.bad)
  | _ => EM.bad
theorem ip_own {W : WX} {fq : List Fq} {op : Operator} (F : FqOk X.K ca fq) (ok : ∀ e ∈ tbl, e.Ok X ca lvl) (hr : Room lvl X.A) : PIp X op (rSemO X.K ca W (ipX fq tbl op)) := by
  intro pins s σ0 H v w u1 u2 Q J r1 r2 ⟨c, c', M, σ, e, a, b, S, ra, rb, h⟩
  obtain ⟨x, hxl, rx, h1⟩ := h.lookM S ra
  obtain ⟨y, hyl, ry, h2⟩ := h1.lookM S rb
  cases x with
  | ins cn ks xs =>
    dsimp only at h2
    cases y with
    | ins cn' ks' ys =>
      dsimp only at h2
      obtain ⟨hz, h3⟩ := RdAt.ite h2
      obtain ⟨z1, z23⟩ := and2 hz
      obtain ⟨z2, z3⟩ := and2 z23
      have ec : cn' = cn := of_decide_eq_true z1
      subst ec
      have dc := dunT_ok F z2
      obtain ⟨cd, hcd, hm⟩ := dc.mro
      obtain ⟨f, cl, me, run, _⟩ := (dun_at ok h3 S (.cons ra (.cons rb .nil))).run hr
      obtain ⟨a1, dx, fs, rfl, ha, _⟩ := rx
      obtain ⟨b1, dy, gs, rfl, hb, _⟩ := ry
      cases (show u1 = Value.ref a1 from r1)
      cases (show u2 = Value.ref b1 from r2)
      obtain ⟨ox, od, L⟩ := ins_at J ha
      obtain ⟨oy, od', L'⟩ := ins_at J hb
      have hn : op.info.2 ∈ ["and", "or", "sub", "xor"] := by
        unfold ipN at z3
        simpa [or_assoc] using z3
      obtain ⟨i1, i2⟩ := dc.ip _ hn
      refine inplace_K (op := op) J.kIn L L'.type hcd hm i1 i2 me.at_ me.fn ?_
      refine wpAny_mono (run (E' := X.xe) J (.cons rfl (.cons rfl .nil))) (fun z s' hz => ?_) fun _ _ z => z
      obtain ⟨z', H', J', rz, qz⟩ := hz
      exact SlX.cmpback rz ⟨z', H', J', rz, qz⟩
    | _ => exact False.elim h2
  | _ => exact False.elim h2
theorem js_aug {i : Nat} {x : Str} {a : Expr} {fq : List Fq} {op : Operator} {n : EM Opd} {pos pos' : Pos} (F : FqOk X.K ca fq) (ok : ∀ e ∈ tbl, e.Ok X ca lvl) (hr : Room lvl X.A) (hN : X.N.Nodup) (hi : X.N[i]? = some x) (hx : Loc X.env.scope x) (hf : X.fn x = true) (h : JO X ca n a) :
    JS X ca (asgM i (twoO (slotM i) n (ipX fq tbl op))) (.AugAssign (.Name x pos') op a pos) := fun W tk => by
  refine PS.imp (ps_aug hN hi hx (h W tk) (ip_own (W := W) F ok hr) (.inl hf)) fun D σ H ⟨c, M, e, S, q⟩ => ?_
  have h1 : Rd X.K ca (twoO (slotM i) n (ipX fq tbl op)) (relV X.K ca) W σ H (fun v H1 => D.nx (σ.set i (some v)) H1) := SRdAt.thenS q S fun r v H1 M1 e1 S1 _ rr q1 => asg_at S1 (relV.back S rr fun _ h => h) q1
  obtain ⟨c2, M2, e2, S2, h2⟩ := twoO_op h1
  unfold RdAt slotM at h2
  cases z : e2[i]? with
  | none => simp only [z] at h2
  | some o =>
    cases o with
    | none => simp only [z] at h2
    | some s =>
      simp only [z] at h2
      obtain ⟨v, ev, _⟩ := S2.slot i s z
      exact ⟨v, ev, h2 v H M2 S2 ev⟩
end
end QB

namespace QB
open PySem L2
/-! ### {'k': v, ..}, looked at by [..] and .get(.., ..) -/
section
variable {K : PySem.W.Frag} {ca : CA} {c : Fx} {D : Addr} {M M' : Addr → Prop} {σ σ' : St} {H H' : Hp} {e e' : En}
/-- the new dict stands at D, hidden, still empty -/
structure DSt (K : PySem.W.Frag) (ca : CA) (c : Fx) (D : Addr) (M : Addr → Prop) (σ : St) (H : Hp) (e : En) : Prop where
  sim : Sim K ca c M σ H e
  no0 : ¬ c.M0 D
  hid : M D
  noD : NoD σ e D
  dct : H D = some (.dK [])
theorem DSt.step (B : DSt K ca c D M σ H e) (S' : Sim K ca (Fx.at M σ H e c.par) M' σ' H' e') : DSt K ca c D M' σ' H' e' := by
  have nch : ¬ (Fx.at M σ H e c.par).ch D := fun ⟨i, s, h1, h2, h3⟩ => B.noD i s h1 h2 h3
  obtain ⟨m, q⟩ := S'.frame D B.hid nch
  refine ⟨B.sim.backH S', B.no0, m, fun i s h k z => ?_, q.trans B.dct⟩
  rcases S'.ownd i s D h k z with w | w
  · exact nch w
  · exact w B.hid
theorem DSt.start (S1 : Sim K ca c M σ H e) (hD : H D = none) : DSt K ca c D (addM M D) σ (upd H D (.dK [])) e :=
  ⟨S1.allocA hD, S1.fresh0 hD, .inr rfl, fun i s h k z => by
    have w := (S1.chg_at h (.inl k) z).2
    rw [hD] at w
    exact absurd w (by decide), upd_same⟩
theorem DSt.give (B : DSt K ca c D M σ H e) {kvs : List (Key × V)} {ps : List PV} (r : Reps K ca (QB.hid H M) ps (kvs.map (·.2))) :
    ∃ M', Sim K ca c M' σ (upd H D (.dK kvs)) e ∧ relV K ca c M' σ (upd H D (.dK kvs)) e (.val (.dct (kvs.map (·.1)) ps)) (.ref D) := by
  have hh := hid_upd (H := H) (o := .dK kvs) B.hid
  have S := B.sim
  have sm : Same (QB.hid H M) (QB.hid (upd H D (.dK kvs)) (subM M D)) := by
    rw [← hh]
    exact hid_less fun b z => z.1
  have ne : ∀ {i : Nat} {s : Slot} {v : V}, e[i]? = some (some s) → σ[i]? = some (some v) → s.chg = true → ∀ b, v = .ref b → b ≠ D := fun h e1 k b eb z => by
    subst eb; subst z
    exact B.noD _ _ h k e1
  refine ⟨subM M D, ⟨S.len, fun i s h => ?_, S.inj, S.ext.trans sm, fun a h0 hn => ?_, S.ownd, S.par, fun a h => upd_live (S.there a h.1), fun a h => upd_live (S.cthere a h), S.sub⟩, ⟨D, kvs, rfl, hid_of.mpr ⟨upd_same, fun z => z.2 rfl⟩, rfl, r.mono sm⟩, trivial⟩
  · obtain ⟨v, e1, rs⟩ := S.slot i s h
    refine ⟨v, e1, ?_⟩
    cases s with
    | val q => exact Rep.mono sm rs
    | exn x => exact XSl.mono sm rs
    | own m => obtain ⟨b, eb, mb, rr⟩ := rs; exact ⟨b, eb, ⟨mb, ne h e1 rfl b eb⟩, rr.mono sm (upd_ne (ne h e1 rfl b eb))⟩
    | par m => obtain ⟨b, eb, mb, rr⟩ := rs; exact ⟨b, eb, ⟨mb, ne h e1 rfl b eb⟩, rr.mono sm (upd_ne (ne h e1 rfl b eb))⟩
  · obtain ⟨m, q⟩ := S.frame a h0 hn
    have nd : a ≠ D := fun z => B.no0 (by rw [← z]; exact h0)
    exact ⟨⟨m, nd⟩, by rw [upd_ne nd]; exact q⟩
end
section
variable {X : Cx} {ca : CA}
/-- the pairs of a display -/
def JD (X : Cx) (ca : CA) (pos : Pos) (ks : List Str) (ms : EM (List PV)) (keys : List (Option Expr)) (values : List Expr) : Prop := ∀ W, Takes X W → ∃ trs, PPs X pos keys values trs ∧
  ∀ {c : Fx} {D : Addr} {M : Addr → Prop} {σ : St} {H : Hp} {e : En} {Q : List (V × V) → Hp → Prop}, DSt X.K ca c D M σ H e →
    (match ms e with
      | .ok ps e' => ∀ vs H' M', DSt X.K ca c D M' σ H' e' → Same (hid H M) (hid H' M') → Reps X.K ca (hid H' M') ps vs → Q ((ks.map V.str).zip vs) H'
      | .exc x e' => ∀ cls d H' M', Sim X.K ca c M' σ H' e' → XRep X.K ca M' H' x cls d → W cls d σ H'
      | .bad => False) → tPairs trs σ H Q
theorem jd_nil {pos : Pos} : JD X ca pos [] valsNil [] [] := fun W tk => ⟨[], pps_nil, fun {c D M σ H e Q} B h => h [] H M B (Same.refl _) rfl⟩
theorem jd_cons {pos : Pos} {k : Str} {j p : _} {v : Expr} {m : EM RV} {ks : List Str} {ms : EM (List PV)} {keys : List (Option Expr)} {values : List Expr} (hv : JE X ca m v) (hr : JD X ca pos ks ms keys values) :
    JD X ca pos (k :: ks) (valsCons m ms) (some (.Constant (.str k) j p) :: keys) (v :: values) := fun W tk => by
  obtain ⟨trs, hp, hq⟩ := hr W tk
  refine ⟨_, pps_cons (je_str (X := X) (ca := ca) W tk) (hv W tk) hp, fun {c D M σ H e Q} B h => ?_⟩
  refine ⟨_, M, e, B.sim.here, fun b H1 M1 S1 r1 => ?_⟩
  have eb : b = .str k := r1.1
  subst eb
  have B1 := B.step S1
  refine ⟨_, M1, e, B1.sim.here, ?_⟩
  unfold RdAt
  unfold valsCons EM.bind at h
  cases q1 : m e with
  | bad => simp only [q1] at h
  | exc x e1 =>
    simp only [q1] at h
    exact fun cls d H2 M2 S2 r2 => h cls d H2 M2 (B1.sim.backH S2) r2
  | ok r e1 =>
    simp only [q1] at h
    intro y H2 M2 S2 r2
    have B2 := B1.step S2
    refine hq B2 ?_
    cases q2 : ms e1 with
    | bad => simp only [q2] at h
    | exc x e2 =>
      simp only [q2] at h
      exact h
    | ok ps e2 =>
      simp only [q2] at h
      intro vs H3 M3 B3 sm r3
      exact h (y :: vs) H3 M3 B3 ((S1.ext.trans S2.ext).trans sm) ⟨y, vs, rfl, r2.1.mono sm, r3⟩
def dsM (ks : List Str) (ms : EM (List PV)) : EM RV := ms.bind fun ps => if decide (ps.length = ks.length ∧ ks.Nodup ∧ ks.length ≤ 15) then EM.ret (.val (.dct (ks.map .inr) ps)) else EM.bad
theorem merge_app : ∀ (more kvs : List (Key × V)), ((kvs ++ more).map (·.1)).Nodup → mergeK kvs more = kvs ++ more
  | [], kvs, _ => by rw [List.append_nil]; rfl
  | p :: r, kvs, h => by
    show mergeK (putK kvs p.1 p.2) r = _
    have hp : (kvs.any fun kv => decide (kv.1 = p.1)) = false := by
      cases z : kvs.any fun kv => decide (kv.1 = p.1) with
      | false => rfl
      | true =>
        exfalso
        obtain ⟨q, hq, e⟩ := List.any_eq_true.mp z
        have e : q.1 = p.1 := of_decide_eq_true e
        rw [List.map_append, List.map_cons] at h
        have := (List.nodup_append.mp h).2.2 q.1 (List.mem_map.mpr ⟨q, hq, rfl⟩) p.1 List.mem_cons_self
        exact this e
    have : putK kvs p.1 p.2 = kvs ++ [p] := by
      unfold putK
      rw [hp]
      rfl
    rw [this, merge_app r (kvs ++ [p]) (by rw [List.append_assoc]; exact h), List.append_assoc]
    rfl
theorem zip_kvs : ∀ {ks : List Str} {vs : List V}, vs.length = ks.length → ∃ kvs : List (Key × V), (ks.map V.str).zip vs = kvs.map (fun kv => (kV kv.1, kv.2)) ∧ kvs.map (·.1) = ks.map .inr ∧ kvs.map (·.2) = vs
  | [], [], _ => ⟨[], rfl, rfl, rfl⟩
  | [], _ :: _, h => by cases h
  | _ :: _, [], h => by cases h
  | k :: ks, v :: vs, h => by
    obtain ⟨kvs, h1, h2, h3⟩ := zip_kvs (ks := ks) (vs := vs) (by simpa using h)
    refine ⟨(.inr k, v) :: kvs, ?_, ?_, ?_⟩
    · rw [List.map_cons, List.zip_cons_cons, h1]
      rfl
    · rw [List.map_cons, h2]; rfl
    · rw [List.map_cons, h3]
theorem je_disp {pos : Pos} {ks : List Str} {ms : EM (List PV)} {keys : List (Option Expr)} {values : List Expr} (h : JD X ca pos ks ms keys values) (hall : keys.all (·.isSome) = true) (hl : keys.length = values.length) (h0 : keys ≠ [])
    (h15 : keys.length ≤ 15) : JE X ca (dsM ks ms) (.Dict keys values pos) := fun W tk => by
  obtain ⟨trs, hp, hq⟩ := h W tk
  refine PE.imp (pe_disp hp hall hl h0 h15) fun σ H Q ⟨c, M, e, S, q⟩ => fun D hD => ?_
  refine hq (DSt.start S hD) ?_
  unfold RdAt dsM EM.bind at q
  cases q1 : ms e with
  | bad => simp only [q1] at q
  | exc x e1 => simp only [q1] at q; exact q
  | ok ps e1 =>
    simp only [q1] at q
    intro vs H2 M2 B2 sm r2
    refine ⟨B2.dct, ?_⟩
    split at q
    · rename_i hz
      split at hz
      · rename_i hd
        obtain ⟨z1, z2, z3⟩ := of_decide_eq_true hd
        cases hz
        obtain ⟨kvs, k1, k2, k3⟩ := zip_kvs (ks := ks) (vs := vs) (by rw [r2.length]; exact z1)
        have nd : (kvs.map (·.1)).Nodup := by
          rw [k2]
          exact List.Pairwise.map _ (fun a b n z => n (by injection z)) z2
        rw [← k3] at r2
        obtain ⟨M3, S3, r3⟩ := B2.give r2
        refine ⟨kvs, k1, by rw [← List.length_map (f := (·.1)), k2, List.length_map]; exact z3, ?_⟩
        rw [merge_app kvs [] nd, List.nil_append]
        rw [k2] at r3
        exact q _ _ M3 S3 r3
      · cases hz
    · rename_i hz
      split at hz
      · cases hz
      · cases hz
    · exact q.elim
/-! ### d[k], d.get(k, x) -/
def dkP : PV → Option Key
  | .str x => some (.inr x)
  | .int i => some (.inl i)
  | _ => none
def dval : List Key → List PV → Key → Option PV
  | k :: ks, x :: xs, j => if k = j then some x else dval ks xs j
  | _, _, _ => none
theorem dval_some {K : PySem.W.Frag} {G : Hp} : ∀ {kvs : List (Key × V)} {xs : List PV} {j : Key} {p : PV}, Reps K ca G xs (kvs.map (·.2)) → dval (kvs.map (·.1)) xs j = some p → ∃ v, valV kvs j = some v ∧ Rep K ca G p v
  | [], xs, j, p, h, e => by cases xs <;> cases e
  | q :: kvs, [], j, p, h, e => by cases e
  | q :: kvs, x :: xs, j, p, h, e => by
    obtain ⟨v, r, h0, h1, h2⟩ := h
    rw [List.map_cons] at h0 e
    injection h0 with h3 h4
    subst h3; subst h4
    unfold dval at e
    by_cases z : q.1 = j
    · rw [if_pos z] at e
      cases e
      exact ⟨q.2, valV_pos z, h1⟩
    · rw [if_neg z] at e
      rw [valV_neg z]
      exact dval_some h2 e
theorem dval_none {K : PySem.W.Frag} {G : Hp} : ∀ {kvs : List (Key × V)} {xs : List PV} {j : Key}, Reps K ca G xs (kvs.map (·.2)) → dval (kvs.map (·.1)) xs j = none → valV kvs j = none
  | [], xs, j, h, e => rfl
  | q :: kvs, [], j, h, e => by cases h
  | q :: kvs, x :: xs, j, h, e => by
    obtain ⟨v, r, h0, h1, h2⟩ := h
    rw [List.map_cons] at h0 e
    injection h0 with h3 h4
    subst h3; subst h4
    unfold dval at e
    by_cases z : q.1 = j
    · rw [if_pos z] at e
      cases e
    · rw [if_neg z] at e
      rw [valV_neg z]
      exact dval_none h2 e
theorem dkP_kV {K : PySem.W.Frag} {G H : Hp} {y : PV} {w : V} {k : Key} (h : dkP y = some k) (r : RepT K ca G H y w) : w = kV k := by
  cases y <;> first | (cases h; done) | (cases h; cases r; rfl)
/-- o[k] of a dict -/
def dixP : PV → PV → Option PV
  | .dct ks xs, y => (dkP y).bind (dval ks xs)
  | _, _ => none
def dgM (ma mb : EM Opd) : EM RV := two ma mb fun x y => retP (dixP x y)
theorem noSl {b : Expr} (h : isSlice b = false) : NoSl b := by
  intro ov iv
  cases b <;> first | rfl | cases h
theorem je_dget {a b : Expr} {ma mb : EM Opd} {pos : Pos} (hu : X.A.units + 1 < cLine) (hs : isSlice b = false) (ha : JO X ca ma a) (hb : JO X ca mb b) : JE X ca (dgM ma mb) (.Subscript a b pos) := fun W tk =>
  PE.imp (pe_dget hu (ha W tk) (hb W tk) (noSl hs)) fun σ H Q ⟨c, M, e, S, q⟩ => by
    refine RdAt.bind q S fun a v H1 M1 e1 S1 _ _ r1 q1 => ?_
    refine RdAt.bind q1 S1 fun b w H2 M2 e2 S2 sm _ r2 q2 => ?_
    obtain ⟨x, _, rx, q3⟩ := q2.lookM (c' := c) (e' := e2) S2 (relO.mono r1 sm)
    obtain ⟨y, _, ry, q4⟩ := q3.lookM S2 r2
    obtain ⟨p, hp, q5⟩ := RdAt.optB q4
    cases x <;> first | (cases hp; done) | skip
    case dct ks xs lk =>
      obtain ⟨a, kvs, rfl, hd, rfl, rs⟩ := rx
      unfold dixP at hp
      dsimp only at hp
      cases hk : dkP y with
      | none => rw [hk] at hp; cases hp
      | some k =>
        rw [hk] at hp
        obtain ⟨v, e1, r⟩ := dval_some rs hp
        exact ⟨a, v, rfl, .inl ⟨kvs, k, .inl hd, dkP_kV hk ry, e1.symm⟩, q5.ret S2 ⟨r, trivial⟩⟩
/-- o.get(k, x) of a dict -/
def isDc (o : Opd) : EM Unit := (lookM o).bind fun x => match x with
  | .dct _ _ => EM.ret ()
  | _ => EM.bad
def dgetP (x y : PV) (r : RV) : EM RV := match x with
  | .dct ks xs => (match dkP y with
    | some k => (match dval ks xs k with
      | some p => EM.ret (.val p)
      | none => EM.ret (.val r.pv))
    | none => EM.bad)
  | _ => EM.bad
def dg2M (mo ma : EM Opd) (mb : EM RV) : EM RV := mo.bind fun o => (isDc o).bind fun _ => ma.bind fun a => mb.bind fun r => (lookM o).bind fun x => (lookM a).bind fun y => dgetP x y r
theorem RdAt.isDc {K : PySem.W.Frag} {c c' : Fx} {M : Addr → Prop} {σ : St} {H : Hp} {e e' : En} {W : WX} {γ δ : Type} {o : Opd} {v : V} {f : Unit → EM γ} {rel : RelT γ δ} {Q : δ → Hp → Prop} (h : RdAt K ca c ((QB.isDc o).bind f) rel W e σ Q) (S : Sim K ca c M σ H e) (r : relO K ca c' M σ H e' o v) :
    ∃ a kvs, v = .ref a ∧ H a = some (.dK kvs) ∧ RdAt K ca c (f ()) rel W e σ Q := by
  have h' : RdAt K ca c ((QB.lookM o).bind fun x => (match x with
    | .dct _ _ => EM.ret ()
    | _ => EM.bad).bind f) rel W e σ Q := by
    unfold RdAt QB.isDc EM.bind QB.lookM at h
    unfold RdAt EM.bind QB.lookM
    cases q : o.look e with
    | none => simp only [q] at h
    | some p => simp only [q] at h ⊢; exact h
  obtain ⟨x, _, rx, q⟩ := h'.lookM S r
  cases x <;> first | exact False.elim q | skip
  case dct ks xs lk =>
    obtain ⟨a, kvs, rfl, hd, _, _⟩ := rx
    exact ⟨a, kvs, rfl, hd, q⟩
theorem je_dget2 {o a b : Expr} {mo ma : EM Opd} {mb : EM RV} {apos pos : Pos} (hu : X.A.units + 1 < cLine) (hsa : isStar a = false) (hsb : isStar b = false) (hb : attributeBase o "get" X.env (eval o X.env) = eval o X.env) (hl : (apos.endLine == pos.line) = true)
    (ho : JO X ca mo o) (ha : JO X ca ma a) (hbb : JE X ca mb b) : JE X ca (dg2M mo ma mb) (.Call (.Attribute o "get" apos) [a, b] [] pos) := fun W tk =>
  PE.imp (pe_dget2 hu (ho W tk) (ha W tk) (hbb W tk) ⟨hb, by rw [star_cons hsa, star_cons hsb]; rfl, hl, by rw [star_cons hsa, star_cons hsb]; rfl⟩) fun σ H Q ⟨c, M, e, S, q⟩ => by
    refine RdAt.bind q S fun o v H1 M1 e1 S1 _ _ r1 q1 => ?_
    obtain ⟨d, kvs0, rfl, hd0, q1⟩ := RdAt.isDc q1 S1 r1
    refine ⟨d, rfl, .inl ⟨kvs0, .inl hd0⟩, ?_⟩
    refine RdAt.bind q1 S1 fun a w H2 M2 e2 S2 sm _ r2 q2 => ?_
    refine RdAt.bind q2 S2 fun b z H3 M3 e3 S3 sm2 _ r3 q3 => ?_
    obtain ⟨x, _, rx, q4⟩ := q3.lookM (c' := c) (e' := e3) S3 (relO.mono r1 (sm.trans sm2))
    obtain ⟨y, _, ry, q5⟩ := q4.lookM (c' := c) (e' := e3) S3 (relO.mono r2 sm2)
    unfold dgetP at q5
    cases x <;> first | exact False.elim q5 | skip
    case dct ks xs lk =>
      obtain ⟨a', kvs, ea, hd, rfl, rs⟩ := rx
      cases ea
      dsimp only at q5
      cases hk : dkP y with
      | none => rw [hk] at q5; exact False.elim q5
      | some k =>
        rw [hk] at q5
        dsimp only at q5
        cases hv : dval (kvs.map (·.1)) xs k with
        | none =>
          rw [hv] at q5
          refine ⟨none, .inl ⟨kvs, k, .inl hd, dkP_kV hk ry, (dval_none rs hv).symm⟩, ?_⟩
          exact RdAt.ret q5 S3 ⟨r3.1, trivial⟩
        | some p =>
          rw [hv] at q5
          obtain ⟨v, e1, r⟩ := dval_some rs hv
          refine ⟨some v, .inl ⟨kvs, k, .inl hd, dkP_kV hk ry, e1.symm⟩, ?_⟩
          exact RdAt.ret q5 S3 ⟨r, trivial⟩
end
end QB

namespace QB
open PySem L2
/-! ### the meaning of a text, by the text -/
/-- what is known of the module -/
structure Bs where
  consts : List (Str × PV)
  frees : List Str
  fq : List Fq
/-- what is known of the classes: methods, classes that are called, class methods, properties -/
structure Cl where
  me : List MethE
  mks : List MethE
  cm : List MethE
  pr : List MethE
structure Cfg where
  N : List Str
  fns : List FnE
  rp : Bool
  bs : Bs
  cl : Cl := ⟨[], [], [], []⟩
  hot : Bool := false
structure Good (cfg : Cfg) (ca : CA) (lvl : Nat) (X : Cx) : Prop where
  hN : X.N = cfg.N
  nd : cfg.N.Nodup
  units : X.A.units + 65 < cLine
  calm : cfg.hot = false → X.calm = true
  room : cfg.hot = false → Room lvl X.A
  fns : cfg.hot = false → ∀ E ∈ cfg.fns, E.Ok cfg.rp X ca lvl
  gd : cfg.rp = true → X.A.guards = some []
  consts : ∀ p ∈ cfg.bs.consts, ∃ u v, X.mg p.1 = some u ∧ RelV v u ∧ KRep X.K ca p.2 v
  frees : ∀ x ∈ cfg.bs.frees, X.mg x = none
  fq : FqOk X.K ca cfg.bs.fq
  xp : XPins X ca
  nox : cfg.hot = false → ∀ a, ca.xp a = none
  me : cfg.hot = false → ∀ e ∈ cfg.cl.me, e.Ok X ca lvl
  mks : cfg.hot = false → ∀ e ∈ cfg.cl.mks, e.E.name = "__init__" → e.MkOk X ca lvl
  cm : cfg.hot = false → ∀ e ∈ cfg.cl.cm, e.CmOk X ca lvl
  pr : cfg.hot = false → ∀ e ∈ cfg.cl.pr, e.PrOk X ca lvl
structure Den where
  E : Scope → Expr → Option (EM RV)
  T : Scope → Expr → Option (EM Bool)
def okName (x : Str) : Bool := !(x == ("__debug__" : Str)) && !(x == ("__classdict__" : Str)) && !(x == ("__name__" : Str))
def isVis (sc : Scope) (x : Str) : Bool := match sc.names.lookup x with
  | some .local => true
  | some .cell => true
  | some .free => true
  | _ => false
def isLoc (sc : Scope) (x : Str) : Bool := match sc.names.lookup x with
  | some .local => true
  | some .cell => true
  | _ => false
def isGlob (sc : Scope) (x : Str) : Bool := match sc.names.lookup x with
  | some .globalImplicit => true
  | _ => false
/-- the slot of a name -/
def slotOf (cfg : Cfg) (sc : Scope) (x : Str) : Option Nat := if okName x && isVis sc x then cfg.N.findIdx? (· == x) else none
def dO (cfg : Cfg) (d : Den) (sc : Scope) (b : Bool) (e : Expr) : Option (EM Opd) := match b, e with
  | true, .Name x p => match slotOf cfg sc x with
    | some i => some (slotM i)
    | none => (d.E sc (.Name x p)).map opdM
  | _, e => (d.E sc e).map opdM
def dA (cfg : Cfg) (d : Den) (sc : Scope) : List Bool → List Expr → Option (EM (List Opd))
  | _, [] => some opdsNil
  | b, e :: es => if isStar e then none else match dO cfg d sc (b.headD false) e, dA cfg d sc b.tail es with
    | some m, some ms => some (opdsCons m ms)
    | _, _ => none
def dV (d : Den) (sc : Scope) : List Expr → Option (EM (List PV))
  | [] => some valsNil
  | e :: es => match e with
    | .Starred e' _ => (match d.E sc e', dV d sc es with
      | some m, some ms => some (valsStar m ms)
      | _, _ => none)
    | e => match d.E sc e, dV d sc es with
      | some m, some ms => some (valsCons m ms)
      | _, _ => none
def dK (d : Den) (sc : Scope) : List Keyword → Option (EM (List Opd))
  | [] => some opdsNil
  | ⟨nm, e, _⟩ :: ks => match d.E sc e, dK d sc ks with
    | some m, some ms => some (opdsCons (opdM m) ms)
    | _, _ => none
def dBE (d : Den) (sc : Scope) (op : BoolOp) : List Expr → Option (EM RV)
  | [] => none
  | [e] => d.E sc e
  | e :: es => match d.E sc e, dBE d sc op es with
    | some m, some n => match op with
      | .And => some (andV m n)
      | .Or => some (orV m n)
    | _, _ => none
def dBT (d : Den) (sc : Scope) (op : BoolOp) : List Expr → Option (EM Bool)
  | [] => none
  | [e] => d.T sc e
  | e :: es => match d.T sc e, dBT d sc op es with
    | some m, some n => match op with
      | .And => some (andT m n)
      | .Or => some (orT m n)
    | _, _ => none
/-- built-ins -/
def bltB (rp : Bool) (x : Str) : Option (List PV → EM RV) :=
  if x = "repr" then (if rp then some bRepr else none) else if x = "len" then some bLen else if x = "abs" then some bAbs else if x = "max" then some bMax else if x = "min" then some bMin else if x = "any" then some bAny else if x = "all" then some bAll else if x = "sorted" then some bSorted else none
def bltT (x : Str) : Option (List PV → EM RV) :=
  if x = "int" then some bInt' else if x = "str" then some bStr else if x = "list" then some bList else if x = "tuple" then some bTuple else none
/-- own methods by their name -/
def meT (cfg : Cfg) (m : Str) : List MethE := if cfg.hot then [] else cfg.cl.me.filter fun e => e.E.name == m
/-- built-ins that ask own classes -/
def ownB (cfg : Cfg) (x : Str) : Option (List Opd → EM RV) := if x = "len" then (match meT cfg "__len__" with
  | [] => none
  | t :: ts => some (lenX (t :: ts))) else if x = "str" then (match meT cfg "__str__" with
  | [] => none
  | t :: ts => some (strX (t :: ts))) else if x = "bool" then some (boolX (meT cfg "__bool__")) else none
/-- a call of the global name x -/
def dCall (cfg : Cfg) (d : Den) (sc : Scope) (x : Str) (args : List Expr) (kws : List Keyword) : Option (EM RV) :=
  if okName x && isGlob sc x && !cfg.hot then match cfg.fns.find? (fun E => E.name == x) with
    | some E => match E.shapes.find? (fun s => s.n == args.length && decide (kws.filterMap (·.arg) = s.ks)) with
      | some s => if noStars args && kws.all (fun k => k.arg.isSome) then match dA cfg d sc E.bor args, dK d sc kws with
        | some ms, some mk => some (callM E.sem E.ps.length s ms mk)
        | _, _ => none else none
      | none => none
    | none => if cfg.bs.frees.contains x && kws.isEmpty && noStars args && !args.isEmpty then (match ownB cfg x with
      | some f => (match args with
        | [a] => (dA cfg d sc [true] [a]).map fun ms => bltO ms f
        | _ => none)
      | none => match bltB cfg.rp x with
        | some f => (dA cfg d sc (List.replicate 9 true) args).map fun ms => bltM ms f
        | none => match bltT x with
          | some f => (dA cfg d sc (List.replicate 9 true) args).map fun ms => bltM ms f
          | none => none) else none
  else none
def dMeth (cfg : Cfg) (d : Den) (sc : Scope) (x m : Str) (args : List Expr) : Option (EM RV) := match slotOf cfg sc x, args with
  | some i, [a] => if isStar a then none else if m = "append" then (d.E sc a).map (appM i) else if m = "extend" then (dO cfg d sc true a).map (extM i) else none
  | _, _ => none
def opQ (cfg : Cfg) (op : Operator) (m n : EM Opd) : EM RV := match meT cfg (PySem.dunder op.info.2) with
  | [] => two m n (opB op)
  | t :: ts => twoO m n (opX cfg.bs.fq (t :: ts) op)
def cmpD : CmpOp → Str
  | .In => "__contains__"
  | .NotIn => "__contains__"
  | .Eq => "__eq__"
  | .NotEq => "__eq__"
  | .Lt => "__lt__"
  | .LtE => "__le__"
  | .Gt => "__gt__"
  | .GtE => "__ge__"
  | _ => ""
def cmpQ (cfg : Cfg) (op : CmpOp) (m n : EM Opd) : EM RV := match meT cfg (cmpD op) with
  | [] => two m n (opC op)
  | t :: ts => twoO m n (cmpX cfg.bs.fq (t :: ts) op)
/-- C(..), cls(..) -/
def mkT (cfg : Cfg) (sc : Scope) (x : Str) : List MethE := if cfg.hot then [] else if (slotOf cfg sc x).isSome then cfg.cl.mks else cfg.cl.mks.filter fun e => e.cls == x
def dMake (cfg : Cfg) (d : Den) (sc : Scope) (x : Str) (p : Pos) (args : List Expr) (kws : List Keyword) : Option (EM RV) := if noStars args && kws.all (fun k => k.arg.isSome) && !cfg.hot then match dO cfg d sc true (.Name x p), dA cfg d sc [] args, dK d sc kws with
  | some mo, some ms, some mk => some (makeM (mkT cfg sc x) args.length (kws.filterMap (·.arg)) mo ms mk)
  | _, _, _ => none else none
/-- o.m(..), own defs -/
def dOwn (cfg : Cfg) (d : Den) (sc : Scope) (o : Expr) (m : Str) (bor : List Bool) (args : List Expr) (kws : List Keyword) : Option (EM RV) := if noStars args && kws.all (fun k => k.arg.isSome) && decide (args.length + kws.length + 1 < 30) && !isSup o && !cfg.hot then match dO cfg d sc true o, dA cfg d sc bor args, dK d sc kws with
  | some mo, some ms, some mk => if cfg.cl.cm.any (fun e => e.E.name == m) then some (cmethM (cfg.cl.cm.filter fun e => e.E.name == m) m (args.length + 1) (kws.filterMap (·.arg)) mo ms mk) else some (methM (meT cfg m) m (args.length + 1) (kws.filterMap (·.arg)) mo ms mk)
  | _, _, _ => none else none
/-- what own methods borrow -/
def borM (cfg : Cfg) (m : Str) : List Bool := match (cfg.cl.cm ++ cfg.cl.me).find? (fun e => e.E.name == m) with
  | some e => e.E.bor.tail
  | none => []
/-- names of types -/
def tyName (x : Str) : Option String := if x = "int" then some "int" else if x = "bool" then some "bool" else if x = "str" then some "str" else if x = "tuple" then some "tuple" else if x = "list" then some "list" else if x = "dict" then some "dict" else none
def dTy (cfg : Cfg) (sc : Scope) : Expr → Option CK
  | .Name y _ => if okName y && isGlob sc y then (if cfg.bs.frees.contains y then (tyName y).map .bt else if cfg.bs.consts.any (fun p => p.1 == y && (match p.2 with
      | .cls c => c == y
      | _ => false)) then some (.oc y) else none) else none
  | _ => none
def dTys (cfg : Cfg) (sc : Scope) : List Expr → Option (List CK)
  | [] => some []
  | e :: es => match dTy cfg sc e, dTys cfg sc es with
    | some t, some ts => some (t :: ts)
    | _, _ => none
/-- an exception, or any value -/
def isiX (cfg : Cfg) (sc : Scope) (a : Expr) (m : EM Opd) (ts : List CK) : EM RV := match a with
  | .Name x _ => (match slotOf cfg sc x with
    | some i => if cfg.hot then altM (isExn i) (isxM cfg.bs.fq i ts) (isiM cfg.bs.fq m ts) else isiM cfg.bs.fq m ts
    | none => isiM cfg.bs.fq m ts)
  | _ => isiM cfg.bs.fq m ts
def dIsi (cfg : Cfg) (d : Den) (sc : Scope) (args : List Expr) (kws : List Keyword) : Option (EM RV) := if isGlob sc "isinstance" && cfg.bs.frees.contains "isinstance" && kws.isEmpty then match args with
  | [a, t] => if isStar a then none else match dO cfg d sc true a with
    | some m => match t with
      | .Tuple es _ _ => match dTys cfg sc es with
        | some ts => if szOk ts.length && !ts.isEmpty then some (isiX cfg sc a m ts) else none
        | none => none
      | t => match dTy cfg sc t with
        | some ty => some (isiX cfg sc a m [ty])
        | none => none
    | none => none
  | _ => none else none
/-- targets -/
def locOf (cfg : Cfg) (fo : Str → Bool) (sc : Scope) (x : Str) : Option Nat := if isLoc sc x && (fo x || decide (sc.names.lookup x = some .local)) then cfg.N.findIdx? (· == x) else none
def locsOf (cfg : Cfg) (fo : Str → Bool) (sc : Scope) : List Expr → Option (List Nat)
  | [] => some []
  | .Name x _ :: es => match locOf cfg fo sc x, locsOf cfg fo sc es with
    | some i, some is => some (i :: is)
    | _, _ => none
  | _ => none
def dG (cfg : Cfg) (fo : Str → Bool) (sc : Scope) : Expr → Option Tgt
  | .Name x _ => (locOf cfg fo sc x).map .nm
  | .Tuple es _ _ => if cfg.hot then none else (locsOf cfg fo sc es).map .tup
  | _ => none
/-- what is walked -/
def isTup : Expr → Bool
  | .Tuple _ _ _ => true
  | _ => false
def dI (cfg : Cfg) (d : Den) (sc : Scope) (tg iter : Expr) : Option (EM (List PV)) := if fSeq iter then none else match iter with
  | .Call (.Name f _) [a] [] _ => if f = "range" then (if isGlob sc f && cfg.bs.frees.contains f && !isStar a then (dA cfg d sc [true] [a]).map (itA rng1) else none) else if f = "enumerate" then (if isTup tg && isGlob sc f && cfg.bs.frees.contains f && !isStar a then (d.E sc a).map itE else none) else (d.E sc iter).map itV
  | .Call (.Name f _) [a, a'] [] _ => if f = "range" then (if isGlob sc f && cfg.bs.frees.contains f && !isStar a && !isStar a' then (dA cfg d sc [true, true] [a, a']).map (itA rng2) else none) else if f = "zip" then (if isTup tg && isGlob sc f && cfg.bs.frees.contains f && !isStar a && !isStar a' then (dV d sc [a, a']).map itZ else none) else (d.E sc iter).map itV
  | _ => (d.E sc iter).map itV
/-- [.. for .. in ..] -/
def ownOf (cfg : Cfg) (scope : Scope) : List (Str × Nat) := scope.names.filterMap fun y => match y.2 with
  | .local => (cfg.N.findIdx? (· == y.1)).map fun i => (y.1, i)
  | .cell => (cfg.N.findIdx? (· == y.1)).map fun i => (y.1, i)
  | _ => none
def dTst (d : Den) (sc : Scope) : List Expr → Option Tst
  | [] => some .no
  | [e] => (d.T sc e).map .one
  | _ => none
def inOwn (own : List (Str × Nat)) (t : Tgt) : Bool := t.ws.all fun i => (own.map (·.2)).contains i
def blkFo (scope : Scope) (x : Str) : Bool := scope.names.lookup x == some .cell
def dLc1 (cfg : Cfg) (d : Den) (sc : Scope) (own : List (Str × Nat)) (elt tg iter : Expr) (ifs : List Expr) (scope : Scope) : Option (EM RV) := match dI cfg d sc tg iter, dG cfg (blkFo scope) (relS scope sc) tg, dTst d (relS scope sc) ifs, d.E (relS scope sc) elt with
  | some m, some t, some ts, some te => if inOwn own t then some (lcM m t.b ts.m (own.map (·.2)) (eltM te)) else none
  | _, _, _, _ => none
def dLc2 (cfg : Cfg) (d : Den) (sc : Scope) (own : List (Str × Nat)) (elt tg iter : Expr) (ifs : List Expr) (tg1 iter1 : Expr) (ifs1 : List Expr) (scope : Scope) : Option (EM RV) := match dI cfg d sc tg iter, dG cfg (blkFo scope) (relS scope sc) tg, dTst d (relS scope sc) ifs, dI cfg d (relS scope sc) tg1 iter1, dG cfg (blkFo scope) (relS scope sc) tg1, dTst d (relS scope sc) ifs1, d.E (relS scope sc) elt with
  | some m, some t, some ts, some m1, some t1, some ts1, some te => if inOwn own t && inOwn own t1 then some (lcM m t.b ts.m (own.map (·.2)) (lcIn m1 t1.b ts1.m t1.ws (eltM te))) else none
  | _, _, _, _, _, _, _ => none
def dLc (cfg : Cfg) (d : Den) (sc : Scope) (elt : Expr) (gs : List Comprehension) (scope : Scope) : Option (EM RV) := if blkC cfg.N sc scope (ownOf cfg scope) && !cfg.hot then match gs with
  | [⟨tg, iter, ifs, a⟩] => if a = 0 then dLc1 cfg d sc (ownOf cfg scope) elt tg iter ifs scope else none
  | [⟨tg, iter, ifs, a⟩, ⟨tg1, iter1, ifs1, a1⟩] => if a = 0 ∧ a1 = 0 then dLc2 cfg d sc (ownOf cfg scope) elt tg iter ifs tg1 iter1 ifs1 scope else none
  | _ => none else none
/-- f'..' -/
def dFs (d : Den) (sc : Scope) : List Expr → Option (List (EM RV))
  | [] => some []
  | e :: es => match d.E sc e, dFs d sc es with
    | some m, some ms => some (m :: ms)
    | _, _ => none
/-- a method of a text -/
def dStr (cfg : Cfg) (d : Den) (sc : Scope) (o : Expr) (m : Str) (args : List Expr) : Option (EM RV) := match args with
  | [a] => if isStar a || isSup o then none else match dO cfg d sc true o, dO cfg d sc true a with
    | some mo, some ma => if m = "split" then some (strM1 mo ma splitP) else if m = "join" then some (strM1 mo ma joinP) else none
    | _, _ => none
  | _ => none
def dPart (cfg : Cfg) (d : Den) (sc : Scope) : Option Expr → Option (EM (Option Int))
  | none => some noPart
  | some e => (dO cfg d sc true e).map partM
def isDic : Expr → Bool
  | .Dict _ _ _ => true
  | _ => false
def dSub (cfg : Cfg) (d : Den) (sc : Scope) (a : Expr) : Expr → Option (EM RV)
  | .Slice lo hi st _ => (match st with
    | none => (match dO cfg d sc true a, dPart cfg d sc lo, dPart cfg d sc hi with
      | some m, some l, some h => some (slcM m l h)
      | _, _, _ => none)
    | some (.UnaryOp .USub (.Constant (.int 1) _ _) _) => (match lo, hi with
      | none, none => (dO cfg d sc true a).map fun m => one m revP
      | _, _ => none)
    | _ => none)
  | b => match dO cfg d sc true a, dO cfg d sc true b with
    | some m, some n => some (if isDic a then dgM m n else ixM m n)
    | _, _ => none
/-- {'k': v}.get(k, x) -/
def dGet (cfg : Cfg) (d : Den) (sc : Scope) (o : Expr) (args : List Expr) : Option (EM RV) := match args with
  | [a, b] => if isStar a || isStar b || isSup o then none else match dO cfg d sc true o, dO cfg d sc true a, d.E sc b with
    | some mo, some ma, some mb => some (dg2M mo ma mb)
    | _, _, _ => none
  | _ => none
/-- {'k': v, ..} -/
def dD (d : Den) (sc : Scope) : List (Option Expr) → List Expr → Option (List Str × EM (List PV))
  | [], [] => some ([], valsNil)
  | some (.Constant (.str k) _ _) :: ks, v :: vs => (match d.E sc v, dD d sc ks vs with
    | some m, some p => some (k :: p.1, valsCons m p.2)
    | _, _ => none)
  | _, _ => none
/-- o.f -/
def dAttr (cfg : Cfg) (d : Den) (sc : Scope) (o : Expr) (f : Str) : Option (EM RV) := if cfg.hot then (match o with
  | .Name x _ => (match slotOf cfg sc x with
    | some i => some (xflM cfg.bs.fq i f)
    | none => none)
  | _ => none) else if isSup o then none else (dO cfg d sc true o).map fun mo => attrM cfg.bs.fq (cfg.cl.pr.filter fun e => e.E.name == f) f mo
def dE (cfg : Cfg) (d : Den) (sc : Scope) : Expr → Option (EM RV)
  | .Constant c _ _ => match c with
    | .int i => some (EM.ret (.val (.int i)))
    | .bool b => some (EM.ret (.val (.bl b)))
    | .str x => some (EM.ret (.val (.str x)))
    | .none => some (EM.ret (.val .non))
    | _ => none
  | .Name x _ => match slotOf cfg sc x with
    | some i => some (getM i)
    | none => if okName x && isGlob sc x then (cfg.bs.consts.find? (fun p => p.1 == x)).map fun p => EM.ret (.val p.2) else none
  | .Tuple es _ _ => (dV d sc es).map tupM
  | .List es _ => (dV d sc es).map lstM
  | .Dict ks vs _ => if !ks.isEmpty && decide (ks.length ≤ 15) then (dD d sc ks vs).map fun p => dsM p.1 p.2 else none
  | .BinOp a op b _ => match dO cfg d sc true a, dO cfg d sc true b with
    | some m, some n => some (opQ cfg op m n)
    | _, _ => none
  | .UnaryOp op a _ => match op with
    | .USub => (dO cfg d sc true a).map fun m => one m opNeg
    | .Not => (dO cfg d sc true a).map notV
    | .Invert => if cfg.hot then none else (dO cfg d sc true a).map fun m => m.bind (invX (meT cfg "__invert__"))
    | _ => none
  | .BoolOp op es _ => dBE d sc op es
  | .Compare a ops bs _ => match ops, bs with
    | [op], [b] => if behindInMarks op b then none else match dO cfg d sc true a, dO cfg d sc true b with
      | some m, some n => some (cmpQ cfg op m n)
      | _, _ => none
    | [op, op'], [b, c] => if lastMarks [op, op'] [b, c] then none else match dO cfg d sc true a, dO cfg d sc true b, dO cfg d sc true c with
      | some m, some n, some k => some (chainM m n k op op')
      | _, _, _ => none
    | _, _ => none
  | .IfExp t a b _ => match d.T sc t, d.E sc a, d.E sc b with
    | some t, some a, some b => some (iteM t a b)
    | _, _, _ => none
  | .Subscript a b _ => dSub cfg d sc a b
  | .Attribute o f _ => dAttr cfg d sc o f
  | .Call f args kws cpos => match f with
    | .Name x xp => if x = "isinstance" then dIsi cfg d sc args kws else if (mkT cfg sc x).isEmpty then dCall cfg d sc x args kws else dMake cfg d sc x xp args kws
    | .Attribute o m apos => if (apos.endLine == cpos.line) then (if m = "split" ∨ m = "join" then (if kws.isEmpty then dStr cfg d sc o m args else none) else if m = "append" ∨ m = "extend" then (if kws.isEmpty then (match o with
      | .Name x _ => dMeth cfg d sc x m args
      | _ => none) else none) else if m = "get" ∧ isDic o = true then (if kws.isEmpty then dGet cfg d sc o args else none) else dOwn cfg d sc o m (borM cfg m) args kws) else none
    | _ => none
  | .ListComp elt gs scope _ => dLc cfg d sc elt gs scope
  | .FormattedValue a c f _ => match f with
    | none => if c = -1 then (dO cfg d sc true a).map fun m => one m fmtP else none
    | some _ => none
  | .JoinedStr es _ => match es with
    | [e] => d.E sc e
    | e :: e' :: es => (dFs d sc (e :: e' :: es)).map fun ms => fjM ms Str.empty
    | [] => none
  | _ => none
def plainT : Expr → Bool
  | .UnaryOp .Not _ _ => false
  | .BoolOp _ _ _ => false
  | .IfExp _ _ _ _ => false
  | .Compare _ _ _ _ => false
  | _ => true
def dT (cfg : Cfg) (d : Den) (sc : Scope) : Expr → Option (EM Bool)
  | .UnaryOp .Not a _ => (d.T sc a).map notT
  | .BoolOp op es _ => dBT d sc op es
  | .Compare a ops bs _ => match ops, bs with
    | [op], [b] => if behindInMarks op b then none else match dO cfg d sc true a, dO cfg d sc true b with
      | some m, some n => some (boolM (cmpQ cfg op m n))
      | _, _ => none
    | [op, op'], [b, c] => if lastMarks [op, op'] [b, c] then none else match dO cfg d sc true a, dO cfg d sc true b, dO cfg d sc true c with
      | some m, some n, some k => some (boolM (chainM m n k op op'))
      | _, _, _ => none
    | _, _ => none
  | e => if plainT e then (dO cfg d sc true e).map truM else none
def den (cfg : Cfg) : Nat → Den
  | 0 => ⟨fun _ _ => none, fun _ _ => none⟩
  | n + 1 => ⟨fun sc e => some ((dE cfg (den cfg n) sc e).getD EM.bad), fun sc e => some ((dT cfg (den cfg n) sc e).getD EM.bad)⟩

/-! ### it is right -/
def DenOk (cfg : Cfg) (ca : CA) (lvl : Nat) (d : Den) : Prop := ∀ X, Good cfg ca lvl X → (∀ e m, d.E X.env.scope e = some m → JE X ca m e) ∧ ∀ e m, d.T X.env.scope e = some m → JT X ca m e
section
variable {cfg : Cfg} {ca : CA} {lvl : Nat} {X : Cx} {d : Den}
theorem okName_inv {x : Str} (h : okName x = true) : (x == ("__debug__" : Str)) = false ∧ (x == ("__classdict__" : Str)) = false ∧ x ≠ "__name__" := by
  unfold okName at h
  simp only [Bool.and_eq_true, Bool.not_eq_true'] at h
  exact ⟨h.1.1, h.1.2, beq_eq_false_iff_ne.mp h.2⟩
theorem isVis_inv {sc : Scope} {x : Str} (h : isVis sc x = true) : Vis sc x := by
  unfold isVis at h
  split at h
  · exact .inl (by assumption)
  · exact .inr (.inl (by assumption))
  · exact .inr (.inr (by assumption))
  · cases h
theorem isLoc_inv {sc : Scope} {x : Str} (h : isLoc sc x = true) : Loc sc x := by
  unfold isLoc at h
  split at h
  · exact .inl (by assumption)
  · exact .inr (by assumption)
  · cases h
theorem isGlob_inv {x : Str} (h : isGlob X.env.scope x = true) : Gl X x := by
  unfold isGlob at h
  split at h
  · assumption
  · cases h
theorem findIdx_get {N : List Str} {x : Str} {i : Nat} (h : N.findIdx? (· == x) = some i) : N[i]? = some x := by
  rw [List.findIdx?_eq_some_iff_getElem] at h
  obtain ⟨hi, h1, _⟩ := h
  rw [List.getElem?_eq_getElem hi]
  exact congrArg some (beq_iff_eq.mp h1)
theorem slotOf_inv (G : Good cfg ca lvl X) {x : Str} {i : Nat} (h : slotOf cfg X.env.scope x = some i) : X.N[i]? = some x ∧ Vis X.env.scope x ∧ (x == ("__debug__" : Str)) = false ∧ (x == ("__classdict__" : Str)) = false := by
  unfold slotOf at h
  split at h
  · rename_i z
    obtain ⟨z1, z2⟩ := Bool.and_eq_true_iff.mp z
    obtain ⟨a, b, _⟩ := okName_inv z1
    exact ⟨by rw [G.hN]; exact findIdx_get h, isVis_inv z2, a, b⟩
  · cases h
theorem dO_ok (D : DenOk cfg ca lvl d) (G : Good cfg ca lvl X) {b : Bool} {e : Expr} {m : EM Opd} (h : dO cfg d X.env.scope b e = some m) : JO X ca m e := by
  have gen : ∀ {e : Expr} {m : EM Opd}, (d.E X.env.scope e).map opdM = some m → JO X ca m e := fun {e m} h => by
    cases z : d.E X.env.scope e with
    | none => rw [z] at h; cases h
    | some n => rw [z] at h; cases h; exact jo_of ((D X G).1 e n z)
  unfold dO at h
  split at h
  · rename_i x p
    split at h
    · rename_i i hi
      cases h
      obtain ⟨h1, h2, h3, h4⟩ := slotOf_inv G hi
      exact jo_name h1 h2 h3 h4
    · exact gen h
  · exact gen h
theorem dA_ok (D : DenOk cfg ca lvl d) (G : Good cfg ca lvl X) : ∀ {bs : List Bool} {es : List Expr} {m : EM (List Opd)}, dA cfg d X.env.scope bs es = some m → JA X ca m es
  | _, [], m, h => by unfold dA at h; cases h; exact ja_nil
  | bs, e :: es, m, h => by
    unfold dA at h
    split at h
    · cases h
    · rename_i hs
      cases z1 : dO cfg d X.env.scope (bs.headD false) e with
      | none => simp only [z1] at h; cases h
      | some n =>
        cases z2 : dA cfg d X.env.scope bs.tail es with
        | none => simp only [z1, z2] at h; cases h
        | some ns =>
          simp only [z1, z2] at h
          cases h
          exact ja_cons (by simpa using hs) (dO_ok D G z1) (dA_ok D G z2)
theorem dV_ok (D : DenOk cfg ca lvl d) (G : Good cfg ca lvl X) : ∀ {es : List Expr} {m : EM (List PV)}, dV d X.env.scope es = some m → JV X ca m es
  | [], m, h => by unfold dV at h; cases h; exact jv_nil
  | e :: es, m, h => by
    unfold dV at h
    split at h
    · rename_i e' p'
      cases z1 : d.E X.env.scope e' with
      | none => simp only [z1] at h; cases h
      | some n =>
        cases z2 : dV d X.env.scope es with
        | none => simp only [z1, z2] at h; cases h
        | some ns =>
          simp only [z1, z2] at h
          cases h
          exact jv_star ((D X G).1 e' n z1) (dV_ok D G z2)
    · rename_i hs
      have hs' : isStar e = false := by
        cases e <;> first | rfl | exact absurd rfl (hs _ _)
      cases z1 : d.E X.env.scope e with
      | none => simp only [z1] at h; cases h
      | some n =>
        cases z2 : dV d X.env.scope es with
        | none => simp only [z1, z2] at h; cases h
        | some ns =>
          simp only [z1, z2] at h
          cases h
          exact jv_cons hs' ((D X G).1 e n z1) (dV_ok D G z2)
theorem dK_ok (D : DenOk cfg ca lvl d) (G : Good cfg ca lvl X) : ∀ {ks : List Keyword} {m : EM (List Opd)}, dK d X.env.scope ks = some m → JK X ca m ks
  | [], m, h => by unfold dK at h; cases h; exact jk_nil
  | ⟨nm, e, p⟩ :: ks, m, h => by
    unfold dK at h
    cases z1 : d.E X.env.scope e with
    | none => simp only [z1] at h; cases h
    | some n =>
      cases z2 : dK d X.env.scope ks with
      | none => simp only [z1, z2] at h; cases h
      | some ns =>
        simp only [z1, z2] at h
        cases h
        exact jk_cons (jo_of ((D X G).1 e n z1)) (dK_ok D G z2)
theorem dBE_ok (D : DenOk cfg ca lvl d) (G : Good cfg ca lvl X) {op : BoolOp} {pos : Pos} : ∀ {es : List Expr} {m : EM RV}, dBE d X.env.scope op es = some m → JE X ca m (.BoolOp op es pos)
  | [], m, h => by cases h
  | [e], m, h => je_one ((D X G).1 e m h)
  | e :: e' :: es, m, h => by
    unfold dBE at h
    cases z1 : d.E X.env.scope e with
    | none => simp only [z1] at h; cases h
    | some n =>
      cases z2 : dBE d X.env.scope op (e' :: es) with
      | none => simp only [z1, z2] at h; cases h
      | some ns =>
        simp only [z1, z2] at h
        cases op with
        | And => cases h; exact je_and ((D X G).1 e n z1) (dBE_ok D G z2)
        | Or => cases h; exact je_or ((D X G).1 e n z1) (dBE_ok D G z2)
theorem dBT_ok (D : DenOk cfg ca lvl d) (G : Good cfg ca lvl X) {op : BoolOp} {pos : Pos} : ∀ {es : List Expr} {m : EM Bool}, dBT d X.env.scope op es = some m → JW X ca m (.BoolOp op es pos)
  | [], m, h => by cases h
  | [e], m, h => by
    cases op with
    | And => exact jw_and1 ((D X G).2 e m h)
    | Or => exact jw_or1 ((D X G).2 e m h)
  | e :: e' :: es, m, h => by
    unfold dBT at h
    cases z1 : d.T X.env.scope e with
    | none => simp only [z1] at h; cases h
    | some n =>
      cases z2 : dBT d X.env.scope op (e' :: es) with
      | none => simp only [z1, z2] at h; cases h
      | some ns =>
        simp only [z1, z2] at h
        cases op with
        | And => cases h; exact jw_and ((D X G).2 e n z1) (dBT_ok D G z2)
        | Or => cases h; exact jw_or ((D X G).2 e n z1) (dBT_ok D G z2)
theorem bltB_ok (hc : X.calm = true) {rp : Bool} (hg : rp = true → X.A.guards = some []) (hu : X.A.units + 66 < cLine) {x : Str} {f : List PV → EM RV} (h : bltB rp x = some f) : ∃ id, bootBuiltins x = some (.builtin id) ∧ ∀ W, CallR X (.builtin id) (rSemN X.K ca W f) := by
  unfold bltB at h
  split at h
  · rename_i e
    subst e
    split at h
    · rename_i z
      cases h
      exact ⟨"repr", by decide +kernel, cs_repr (hg z) hu⟩
    · cases h
  · repeat (first | (split at h; · (rename_i e; subst e; cases h; first | exact ⟨"len", by decide +kernel, cs_len⟩ | exact ⟨"abs", by decide +kernel, cs_abs⟩ | exact ⟨"max", by decide +kernel, cs_max hc⟩ | exact ⟨"min", by decide +kernel, cs_min hc⟩ | exact ⟨"any", by decide +kernel, cs_any hc⟩ | exact ⟨"all", by decide +kernel, cs_all hc⟩ | exact ⟨"sorted", by decide +kernel, cs_sorted⟩)) | (cases h; done))
theorem bltT_ok {x : Str} {f : List PV → EM RV} (h : bltT x = some f) : ∃ id, bootBuiltins x = some (.type id) ∧ ∀ W, CallR X (.type id) (rSemN X.K ca W f) := by
  unfold bltT at h
  repeat (first | (split at h; · (rename_i e; subst e; cases h; first | exact ⟨"int", by decide +kernel, cs_int'⟩ | exact ⟨"str", by decide +kernel, cs_str⟩ | exact ⟨"list", by decide +kernel, cs_list⟩ | exact ⟨"tuple", by decide +kernel, cs_tuple⟩)) | (cases h; done))
theorem isTup_inv {e : Expr} (h : isTup e = true) : ∃ es k p, e = .Tuple es k p := by
  cases e <;> first | (cases h; done) | exact ⟨_, _, _, rfl⟩
theorem meT_ok (G : Good cfg ca lvl X) {m : Str} {t : MethE} {ts : List MethE} (h : meT cfg m = t :: ts) : cfg.hot = false ∧ ∀ e ∈ t :: ts, e.Ok X ca lvl := by
  unfold meT at h
  split at h
  · cases h
  · rename_i hh
    have hh : cfg.hot = false := by simpa using hh
    exact ⟨hh, fun e he => G.me hh e (by rw [← h] at he; exact (List.mem_filter.mp he).1)⟩
theorem meT_all (G : Good cfg ca lvl X) (hh : cfg.hot = false) {m : Str} : ∀ e ∈ meT cfg m, e.Ok X ca lvl := fun e he => by
  unfold meT at he
  rw [hh] at he
  exact G.me hh e (List.mem_filter.mp he).1
theorem ownB_ok (G : Good cfg ca lvl X) (hh : cfg.hot = false) {x : Str} {f : List Opd → EM RV} (h : ownB cfg x = some f) {a : Expr} {ms : EM (List Opd)} {p pos : Pos} (hg : Gl X x) (hm : X.mg x = none) (hs : isStar a = false) (ha : JA X ca ms [a]) : JE X ca (bltO ms f) (.Call (.Name x p) [a] [] pos) := by
  unfold ownB at h
  split at h
  · rename_i e
    subst e
    split at h
    · cases h
    · rename_i t ts ht
      cases h
      exact je_bltO (cs_lenX (meT_ok G ht).2 (G.room hh)) hg hm (by decide +kernel) (by decide) (by decide) hs ha
  · split at h
    · rename_i e
      subst e
      split at h
      · cases h
      · rename_i t ts ht
        cases h
        exact je_btyO (cs_strX (meT_ok G ht).2 (G.room hh) G.units) hg hm (by decide +kernel) (by decide) (by decide) hs ha
    · split at h
      · rename_i e
        subst e
        cases h
        exact je_btyO (cs_boolX (meT_all G hh) (G.room hh)) hg hm (by decide +kernel) (by decide) (by decide) hs ha
      · cases h
theorem dCall_ok (D : DenOk cfg ca lvl d) (G : Good cfg ca lvl X) {x : Str} {args : List Expr} {kws : List Keyword} {m : EM RV} {p pos : Pos} (h : dCall cfg d X.env.scope x args kws = some m) : JE X ca m (.Call (.Name x p) args kws pos) := by
  unfold dCall at h
  split at h
  · rename_i hx
    obtain ⟨x12, x3⟩ := Bool.and_eq_true_iff.mp hx
    obtain ⟨x1, x2⟩ := Bool.and_eq_true_iff.mp x12
    have hh : cfg.hot = false := by simpa using x3
    obtain ⟨n1, n2, n3⟩ := okName_inv x1
    have hg := isGlob_inv (X := X) x2
    split at h
    · rename_i E hE
      have eN0 := List.find?_some hE
      have eN : E.name = x := beq_iff_eq.mp eN0
      have mE : E ∈ cfg.fns := List.mem_of_find?_eq_some hE
      split at h
      · rename_i s hs
        have q := List.find?_some hs
        have ms : s ∈ E.shapes := List.mem_of_find?_eq_some hs
        obtain ⟨q1, q2⟩ := Bool.and_eq_true_iff.mp q
        have q2 := of_decide_eq_true q2
        split at h
        · rename_i hst
          obtain ⟨t1, t2⟩ := Bool.and_eq_true_iff.mp hst
          have hq : ∀ q ∈ kws, q.arg.isSome = true := fun q hq => List.all_eq_true.mp t2 q hq
          subst eN
          cases z1 : dA cfg d X.env.scope E.bor args with
          | none => simp only [z1] at h; cases h
          | some ma =>
            cases z2 : dK d X.env.scope kws with
            | none => simp only [z1, z2] at h; cases h
            | some mk =>
              simp only [z1, z2] at h
              cases h
              cases args with
              | nil =>
                have : ma = opdsNil := by unfold dA at z1; cases z1; rfl
                subst this
                exact je_call0 (G.fns hh E mE) G.gd (G.room hh) hg ms hq q2 n1 (dK_ok D G z2)
              | cons a as => exact je_call (G.fns hh E mE) G.gd (G.room hh) hg ms t1 hq q2 n1 (dA_ok D G z1) (dK_ok D G z2)
        · cases h
      · cases h
    · split at h
      · rename_i hf
        simp only [Bool.and_eq_true] at hf
        obtain ⟨⟨⟨f1, f2⟩, f3⟩, f4⟩ := hf
        have hk : kws = [] := by simpa using f2
        subst hk
        have hm : X.mg x = none := G.frees x (by simpa using f1)
        cases args with
        | nil => simp at f4
        | cons a as =>
        split at h
        · rename_i f hf
          split at h
          · rename_i a' ea
            cases ea
            cases z1 : dA cfg d X.env.scope [true] [a] with
            | none => rw [z1] at h; cases h
            | some ma =>
              rw [z1] at h
              cases h
              refine ownB_ok G hh hf hg hm ?_ (dA_ok D G z1)
              unfold noStars at f3
              simpa using f3
          · cases h
        · split at h
          · rename_i f hf
            cases z1 : dA cfg d X.env.scope (List.replicate 9 true) (a :: as) with
            | none => rw [z1] at h; cases h
            | some ma =>
              rw [z1] at h
              cases h
              obtain ⟨id, b1, b2⟩ := bltB_ok (ca := ca) (G.calm hh) G.gd (by have := (G.room hh).un; omega) hf
              exact je_blt b2 hg hm b1 n3 n1 f3 (dA_ok D G z1)
          · split at h
            · rename_i f hf
              cases z1 : dA cfg d X.env.scope (List.replicate 9 true) (a :: as) with
              | none => rw [z1] at h; cases h
              | some ma =>
                rw [z1] at h
                cases h
                obtain ⟨id, b1, b2⟩ := bltT_ok (X := X) (ca := ca) hf
                exact je_bty b2 hg hm b1 n3 n1 f3 (dA_ok D G z1)
            · cases h
      · cases h
  · cases h
theorem dMeth_ok (D : DenOk cfg ca lvl d) (G : Good cfg ca lvl X) {x me : Str} {args : List Expr} {m : EM RV} {px apos cpos : Pos} (hl : (apos.endLine == cpos.line) = true) (h : dMeth cfg d X.env.scope x me args = some m) :
    JE X ca m (.Call (.Attribute (.Name x px) me apos) args [] cpos) := by
  unfold dMeth at h
  split at h
  · rename_i i a hi
    obtain ⟨h1, h2, h3, h4⟩ := slotOf_inv G hi
    split at h
    · cases h
    · rename_i hs
      have hs : isStar a = false := by simpa using hs
      split at h
      · rename_i e
        subst e
        cases z : d.E X.env.scope a with
        | none => rw [z] at h; cases h
        | some n => rw [z] at h; cases h; exact je_app h1 h2 h3 h4 hl hs ((D X G).1 a n z)
      · split at h
        · rename_i e
          subst e
          cases z : dO cfg d X.env.scope true a with
          | none => rw [z] at h; cases h
          | some n => rw [z] at h; cases h; exact je_ext h1 h2 h3 h4 hl hs (dO_ok D G z)
        · cases h
  · cases h
theorem locOf_inv (G : Good cfg ca lvl X) {fo : Str → Bool} (hfo : ∀ x, fo x = true → X.fn x = true) {x : Str} {i : Nat} (h : locOf cfg fo X.env.scope x = some i) : X.N[i]? = some x ∧ Loc X.env.scope x ∧ (X.fn x = true ∨ X.env.scope.names.lookup x = some .local) := by
  unfold locOf at h
  split at h
  · rename_i z
    simp only [Bool.and_eq_true, Bool.or_eq_true, decide_eq_true_eq] at z
    exact ⟨by rw [G.hN]; exact findIdx_get h, isLoc_inv z.1, z.2.imp (hfo x) id⟩
  · cases h
theorem locsOf_inv (G : Good cfg ca lvl X) {fo : Str → Bool} (hfo : ∀ x, fo x = true → X.fn x = true) : ∀ {es : List Expr} {is : List Nat}, locsOf cfg fo X.env.scope es = some is → NamesAt X es is
  | [], is, h => by cases h; rfl
  | e :: es, is, h => by
    cases e with
    | Name x p =>
      unfold locsOf at h
      cases z1 : locOf cfg fo X.env.scope x with
      | none => simp only [z1] at h; cases h
      | some i =>
        cases z2 : locsOf cfg fo X.env.scope es with
        | none => simp only [z1, z2] at h; cases h
        | some js =>
          simp only [z1, z2] at h
          cases h
          obtain ⟨h1, h2, h3⟩ := locOf_inv G hfo z1
          exact ⟨i, js, x, p, rfl, rfl, h1, h2, h3, locsOf_inv G hfo z2⟩
    | _ => cases h
theorem dG_ok (G : Good cfg ca lvl X) {fo : Str → Bool} (hfo : ∀ x, fo x = true → X.fn x = true) {tg : Expr} {t : Tgt} (h : dG cfg fo X.env.scope tg = some t) : JG X t tg := by
  cases tg with
  | Name x p =>
    unfold dG at h
    dsimp only at h
    cases z : locOf cfg fo X.env.scope x with
    | none => rw [z] at h; cases h
    | some i =>
      rw [z] at h
      cases h
      obtain ⟨h1, h2, h3⟩ := locOf_inv G hfo z
      exact jg_name (by rw [G.hN]; exact G.nd) h1 h2 h3
  | Tuple es k p =>
    unfold dG at h
    dsimp only at h
    split at h
    · cases h
    · rename_i hh
      have hh : cfg.hot = false := by simpa using hh
      cases z : locsOf cfg fo X.env.scope es with
      | none => rw [z] at h; cases h
      | some is =>
        rw [z] at h
        cases h
        exact jg_tup (G.calm hh) (by rw [G.hN]; exact G.nd) (locsOf_inv G hfo z)
  | _ => cases h
theorem dI_ok (D : DenOk cfg ca lvl d) (G : Good cfg ca lvl X) {tg iter : Expr} {m : EM (List PV)} (h : dI cfg d X.env.scope tg iter = some m) : JI X ca m tg iter ∧ fSeq iter = false := by
  unfold dI at h
  split at h
  · cases h
  · rename_i hs
    refine ⟨?_, by simpa using hs⟩
    have gen : ∀ {m : EM (List PV)}, (d.E X.env.scope iter).map itV = some m → JI X ca m tg iter := fun {m} h => by
      cases z : d.E X.env.scope iter with
      | none => rw [z] at h; cases h
      | some n => rw [z] at h; cases h; exact ji_val ((D X G).1 iter n z)
    split at h
    · split at h
      · rename_i ef
        subst ef
        split at h
        · rename_i hh
          simp only [Bool.and_eq_true, Bool.not_eq_true'] at hh
          obtain ⟨⟨h1, h2⟩, h3⟩ := hh
          cases z : dA cfg d X.env.scope [true] [_] with
          | none => rw [z] at h; cases h
          | some n => rw [z] at h; cases h; exact ji_rng1 (isGlob_inv h1) (G.frees _ (by simpa using h2)) h3 (dA_ok D G z)
        · cases h
      · split at h
        · rename_i ef
          subst ef
          split at h
          · rename_i hh
            simp only [Bool.and_eq_true, Bool.not_eq_true'] at hh
            obtain ⟨⟨⟨h0, h1⟩, h2⟩, h3⟩ := hh
            obtain ⟨es, k, p, rfl⟩ := isTup_inv h0
            obtain ⟨n, z, rfl⟩ := Option.map_eq_some_iff.mp h
            exact ji_enum (isGlob_inv h1) (G.frees _ (by simpa using h2)) h3 ((D X G).1 _ n z)
          · cases h
        · exact gen h
    · split at h
      · rename_i ef
        subst ef
        split at h
        · rename_i hh
          simp only [Bool.and_eq_true, Bool.not_eq_true'] at hh
          obtain ⟨⟨⟨h1, h2⟩, h3⟩, h4⟩ := hh
          cases z : dA cfg d X.env.scope [true, true] [_, _] with
          | none => rw [z] at h; cases h
          | some n => rw [z] at h; cases h; exact ji_rng2 (isGlob_inv h1) (G.frees _ (by simpa using h2)) h3 h4 (dA_ok D G z)
        · cases h
      · split at h
        · rename_i ef
          subst ef
          split at h
          · rename_i hh
            simp only [Bool.and_eq_true, Bool.not_eq_true'] at hh
            obtain ⟨⟨⟨⟨h0, h1⟩, h2⟩, h3⟩, h4⟩ := hh
            obtain ⟨es, k, p, rfl⟩ := isTup_inv h0
            cases z : dV d X.env.scope [_, _] with
            | none => rw [z] at h; cases h
            | some n => rw [z] at h; cases h; exact ji_zip (isGlob_inv h1) (G.frees _ (by simpa using h2)) h3 h4 (dV_ok D G z)
          · cases h
        · exact gen h
    · exact gen h
theorem tyName_inv {x : Str} {t : String} (h : tyName x = some t) : bootBuiltins x = some (.type t) := by
  unfold tyName at h
  repeat (first | (split at h; · (rename_i e; subst e; cases h; decide +kernel)) | (cases h; done))
theorem dTy_inv (G : Good cfg ca lvl X) {e : Expr} {t : CK} (h : dTy cfg X.env.scope e = some t) : TyName X e t := by
  cases e with
  | Name y p =>
    unfold dTy at h
    dsimp only at h
    split at h
    · rename_i z
      obtain ⟨z1, z2⟩ := Bool.and_eq_true_iff.mp z
      obtain ⟨n1, n2, n3⟩ := okName_inv z1
      refine ⟨y, p, rfl, isGlob_inv z2, n1, ?_⟩
      split at h
      · rename_i z3
        cases zt : tyName y with
        | none => rw [zt] at h; cases h
        | some t' =>
          rw [zt] at h
          cases h
          exact ⟨G.frees _ (by simpa using z3), tyName_inv zt, n3⟩
      · split at h
        · rename_i z3
          cases h
          obtain ⟨q, hq, hr⟩ := List.any_eq_true.mp z3
          obtain ⟨r1, r2⟩ := Bool.and_eq_true_iff.mp hr
          obtain ⟨u, v, g1, g2, g3⟩ := G.consts q hq
          obtain ⟨q1, q2⟩ := q
          dsimp only at r1 r2 g1 g3
          have e1 := beq_iff_eq.mp r1
          subst e1
          cases q2 <;> first | (cases r2; done) | skip
          case cls c =>
            have e2 := beq_iff_eq.mp r2
            subst e2
            have k := g3 (fun _ => none)
            cases k
            have k2 : u = Value.ref (ca c) := g2
            rw [k2, G.fq.at_] at g1
            exact g1
        · cases h
    · cases h
  | _ => cases h
theorem dTys_inv (G : Good cfg ca lvl X) : ∀ {es : List Expr} {ts : List CK}, dTys cfg X.env.scope es = some ts → TyNames X es ts
  | [], ts, h => by cases h; exact .nil
  | e :: es, ts, h => by
    unfold dTys at h
    cases z1 : dTy cfg X.env.scope e with
    | none => simp only [z1] at h; cases h
    | some t =>
      cases z2 : dTys cfg X.env.scope es with
      | none => simp only [z1, z2] at h; cases h
      | some ts' =>
        simp only [z1, z2] at h
        cases h
        exact .cons (dTy_inv G z1) (dTys_inv G z2)
theorem isiX_ok (G : Good cfg ca lvl X) {a ty : Expr} {m : EM Opd} {ts : List CK} {p pos : Pos} (h : JE X ca (isiM cfg.bs.fq m ts) (.Call (.Name "isinstance" p) [a, ty] [] pos))
    (hx : ∀ x px i, a = .Name x px → slotOf cfg X.env.scope x = some i → JE X ca (isxM cfg.bs.fq i ts) (.Call (.Name "isinstance" p) [a, ty] [] pos)) : JE X ca (isiX cfg X.env.scope a m ts) (.Call (.Name "isinstance" p) [a, ty] [] pos) := by
  unfold isiX
  split
  · rename_i x px
    split
    · rename_i i hi
      split
      · exact je_alt (hx x px i rfl hi) h
      · exact h
    · exact h
  · exact h
theorem dIsi_ok (D : DenOk cfg ca lvl d) (G : Good cfg ca lvl X) {args : List Expr} {kws : List Keyword} {m : EM RV} {p pos : Pos} (h : dIsi cfg d X.env.scope args kws = some m) : JE X ca m (.Call (.Name "isinstance" p) args kws pos) := by
  unfold dIsi at h
  split at h
  · rename_i hh
    simp only [Bool.and_eq_true] at hh
    obtain ⟨⟨h1, h2⟩, h3⟩ := hh
    have hk : kws = [] := by simpa using h3
    subst hk
    have hg := isGlob_inv (X := X) h1
    have hm : X.mg "isinstance" = none := G.frees _ (by simpa using h2)
    split at h
    · rename_i a t
      split at h
      · cases h
      · rename_i hs
        cases z1 : dO cfg d X.env.scope true a with
        | none => simp only [z1] at h; cases h
        | some n =>
          simp only [z1] at h
          split at h
          · rename_i es k pt
            cases z2 : dTys cfg X.env.scope es with
            | none => simp only [z2] at h; cases h
            | some ts =>
              simp only [z2] at h
              split at h
              · rename_i hz
                cases h
                obtain ⟨hz1, hz2⟩ := Bool.and_eq_true_iff.mp hz
                have hne : ts ≠ [] := by
                  intro z
                  rw [z] at hz2
                  cases hz2
                refine isiX_ok G (je_isiT G.fq hg hm (dTys_inv G z2) (of_decide_eq_true hz1) hne (by simpa using hs) (dO_ok D G z1)) fun x px i ea hi => ?_
                subst ea
                obtain ⟨s1, s2, s3, s4⟩ := slotOf_inv G hi
                exact je_isxT G.fq G.xp hg hm (dTys_inv G z2) (of_decide_eq_true hz1) hne s1 s2 s3 s4
              · cases h
          · cases z2 : dTy cfg X.env.scope t with
            | none => simp only [z2] at h; cases h
            | some ty =>
              simp only [z2] at h
              cases h
              refine isiX_ok G (je_isi G.fq hg hm (dTy_inv G z2) (by simpa using hs) (dO_ok D G z1)) fun x px i ea hi => ?_
              subst ea
              obtain ⟨s1, s2, s3, s4⟩ := slotOf_inv G hi
              exact je_isx G.fq G.xp hg hm (dTy_inv G z2) s1 s2 s3 s4
    · cases h
  · cases h
/-! #### comprehensions -/
theorem Good.blk (G : Good cfg ca lvl X) (hh : cfg.hot = false) {s : Shared} {H : Hp} {scope : Scope} {cenv : Env} {fp : List Addr} : Good cfg ca lvl (X.blk s H scope cenv fp) := ⟨G.hN, G.nd, G.units, G.calm, G.room, G.fns, G.gd, G.consts, G.frees, G.fq, (fun a cls d h => by rw [G.nox hh] at h; cases h), G.nox, G.me, G.mks, G.cm, G.pr⟩
theorem dTst_ok (D : DenOk cfg ca lvl d) (G : Good cfg ca lvl X) {ifs : List Expr} {t : Tst} (h : dTst d X.env.scope ifs = some t) : t.J X ca ifs := by
  unfold dTst at h
  split at h
  · cases h; rfl
  · rename_i e
    cases z : d.T X.env.scope e with
    | none => rw [z] at h; cases h
    | some m => rw [z] at h; cases h; exact ⟨e, rfl, (D X G).2 e m z⟩
  · cases h
theorem inOwn_inv {own : List (Str × Nat)} {t : Tgt} (h : inOwn own t = true) : ∀ i ∈ t.ws, i ∈ own.map (·.2) := fun i hi => by
  have := List.all_eq_true.mp h i hi
  simpa using this
/-- name = [..] may be stored within -/
def swB (sc scope : Scope) (y : Str) (py vp : Pos) : Bool := decide (sc.names.lookup y = some .local) && (py.line == vp.line) && !(scope.names.any fun (n, k) => n == y && (k == .local || k == .cell))
theorem dLc_ok (D : DenOk cfg ca lvl d) (G : Good cfg ca lvl X) {elt : Expr} {gs : List Comprehension} {scope : Scope} {m : EM RV} (h : dLc cfg d X.env.scope elt gs scope = some m) :
    (∀ pos, JE X ca m (.ListComp elt gs scope pos)) ∧ ∀ (i : Nat) (y : Str) (py spos pos : Pos), X.env.scope.kind = .function → X.N[i]? = some y → swB X.env.scope scope y py pos = true → JS X ca (asgM i m) (.Assign [.Name y py] (.ListComp elt gs scope pos) spos) := by
  have nd : X.N.Nodup := by rw [G.hN]; exact G.nd
  have sw : ∀ {y : Str} {py spos pos : Pos}, X.env.scope.kind = .function → swB X.env.scope scope y py pos = true → X.env.scope.names.lookup y = some .local ∧ swapsWith (.ListComp elt gs scope pos) (some (.Name y py)) spos.line X.env = pure true := fun {y py spos pos} hk hs => by
    unfold swB at hs
    simp only [Bool.and_eq_true, decide_eq_true_eq, Bool.not_eq_true'] at hs
    exact ⟨hs.1.1, sw_true hk hs.1.1 hs.1.2 hs.2⟩
  unfold dLc at h
  split at h
  · rename_i hb
    obtain ⟨hb, hh⟩ := Bool.and_eq_true_iff.mp hb
    have hh : cfg.hot = false := by simpa using hh
    have bk : BlkOk X.N X.env.scope scope (ownOf cfg scope) := by rw [G.hN]; exact blkOk_by hb
    generalize ownOf cfg scope = own at bk h
    have gI : ∀ {iter tg : Expr} {m : EM (List PV)}, dI cfg d (relS scope X.env.scope) tg iter = some m → inBlk X scope fun Y => JI Y ca m tg iter := fun {iter tg m} z s H C cl fp => (dI_ok D (G.blk hh (s := s) (H := H) (scope := scope) (cenv := compEnvC scope cl C X.env) (fp := fp)) z).1
    have gG : ∀ {tg : Expr} {t : Tgt}, dG cfg (blkFo scope) (relS scope X.env.scope) tg = some t → inBlk X scope fun Y => JG Y t tg := fun {tg t} z s H C cl fp => dG_ok (G.blk hh (s := s) (H := H) (scope := scope) (cenv := compEnvC scope cl C X.env) (fp := fp)) (fun x hx => hx) z
    have gT : ∀ {ifs : List Expr} {t : Tst}, dTst d (relS scope X.env.scope) ifs = some t → inBlk X scope fun Y => t.J Y ca ifs := fun {ifs t} z s H C cl fp => dTst_ok D (G.blk hh (s := s) (H := H) (scope := scope) (cenv := compEnvC scope cl C X.env) (fp := fp)) z
    have gE : ∀ {e : Expr} {m : EM RV}, d.E (relS scope X.env.scope) e = some m → inBlk X scope fun Y => JE Y ca m e := fun {e m} z s H C cl fp => (D _ (G.blk hh (s := s) (H := H) (scope := scope) (cenv := compEnvC scope cl C X.env) (fp := fp))).1 e m z
    split at h
    · rename_i tg iter ifs a
      split at h
      · rename_i ha
        subst ha
        unfold dLc1 at h
        cases z1 : dI cfg d X.env.scope tg iter with
        | none => simp only [z1] at h; cases h
        | some m1 =>
        cases z2 : dG cfg (blkFo scope) (relS scope X.env.scope) tg with
        | none => simp only [z1, z2] at h; cases h
        | some t =>
        cases z3 : dTst d (relS scope X.env.scope) ifs with
        | none => simp only [z1, z2, z3] at h; cases h
        | some ts =>
        cases z4 : d.E (relS scope X.env.scope) elt with
        | none => simp only [z1, z2, z3, z4] at h; cases h
        | some te =>
        simp only [z1, z2, z3, z4] at h
        split at h
        · rename_i ho
          cases h
          obtain ⟨ji, hset⟩ := dI_ok D G z1
          exact ⟨fun pos => je_lc (G.calm hh) nd hset ji bk (inOwn_inv ho) (gG z2) (gT z3) (gE z4), fun i y py spos pos hk hy hs => js_setLc (G.calm hh) nd hy (sw hk hs (spos := spos)).1 (sw hk hs).2 hset ji bk (inOwn_inv ho) (gG z2) (gT z3) (gE z4)⟩
        · cases h
      · cases h
    · rename_i tg iter ifs a tg1 iter1 ifs1 a1
      split at h
      · rename_i ha
        obtain ⟨ha, ha1⟩ := ha
        subst ha; subst ha1
        unfold dLc2 at h
        cases z1 : dI cfg d X.env.scope tg iter with
        | none => simp only [z1] at h; cases h
        | some m1 =>
        cases z2 : dG cfg (blkFo scope) (relS scope X.env.scope) tg with
        | none => simp only [z1, z2] at h; cases h
        | some t =>
        cases z3 : dTst d (relS scope X.env.scope) ifs with
        | none => simp only [z1, z2, z3] at h; cases h
        | some ts =>
        cases z4 : dI cfg d (relS scope X.env.scope) tg1 iter1 with
        | none => simp only [z1, z2, z3, z4] at h; cases h
        | some m2 =>
        cases z5 : dG cfg (blkFo scope) (relS scope X.env.scope) tg1 with
        | none => simp only [z1, z2, z3, z4, z5] at h; cases h
        | some t1 =>
        cases z6 : dTst d (relS scope X.env.scope) ifs1 with
        | none => simp only [z1, z2, z3, z4, z5, z6] at h; cases h
        | some ts1 =>
        cases z7 : d.E (relS scope X.env.scope) elt with
        | none => simp only [z1, z2, z3, z4, z5, z6, z7] at h; cases h
        | some te =>
        simp only [z1, z2, z3, z4, z5, z6, z7] at h
        split at h
        · rename_i ho
          obtain ⟨ho, ho1⟩ := Bool.and_eq_true_iff.mp ho
          cases h
          obtain ⟨ji, hset⟩ := dI_ok D G z1
          have hset1 : fSeq iter1 = false := by
            unfold dI at z4
            split at z4
            · cases z4
            · rename_i w; simpa using w
          exact ⟨fun pos => je_lc2 (G.calm hh) nd hset hset1 ji bk (inOwn_inv ho) (inOwn_inv ho1) (gG z2) (gT z3) (gI z4) (gG z5) (gT z6) (gE z7), fun i y py spos pos hk hy hs => js_setLc2 (G.calm hh) nd hy (sw hk hs (spos := spos)).1 (sw hk hs).2 hset hset1 ji bk (inOwn_inv ho) (inOwn_inv ho1) (gG z2) (gT z3) (gI z4) (gG z5) (gT z6) (gE z7)⟩
        · cases h
      · cases h
    · cases h
  · cases h
theorem dFs_ok (D : DenOk cfg ca lvl d) (G : Good cfg ca lvl X) : ∀ {es : List Expr} {ms : List (EM RV)}, dFs d X.env.scope es = some ms → JJ X ca ms es
  | [], ms, h => by cases h; exact .nil
  | e :: es, ms, h => by
    unfold dFs at h
    cases z1 : d.E X.env.scope e with
    | none => simp only [z1] at h; cases h
    | some m =>
      cases z2 : dFs d X.env.scope es with
      | none => simp only [z1, z2] at h; cases h
      | some ms' => simp only [z1, z2] at h; cases h; exact .cons ((D X G).1 e m z1) (dFs_ok D G z2)
theorem dStr_ok (D : DenOk cfg ca lvl d) (G : Good cfg ca lvl X) {o : Expr} {me : Str} {args : List Expr} {m : EM RV} {apos cpos : Pos} (hl : (apos.endLine == cpos.line) = true) (h : dStr cfg d X.env.scope o me args = some m) : JE X ca m (.Call (.Attribute o me apos) args [] cpos) := by
  unfold dStr at h
  split at h
  · rename_i a
    split at h
    · cases h
    · rename_i hs
      simp only [Bool.or_eq_true, not_or, Bool.not_eq_true] at hs
      cases z1 : dO cfg d X.env.scope true o with
      | none => simp only [z1] at h; cases h
      | some n =>
        cases z2 : dO cfg d X.env.scope true a with
        | none => simp only [z1, z2] at h; cases h
        | some k =>
          simp only [z1, z2] at h
          split at h
          · rename_i e
            subst e
            cases h
            exact je_split (notSup hs.2) hl hs.1 (dO_ok D G z1) (dO_ok D G z2)
          · split at h
            · rename_i e
              subst e
              cases h
              exact je_join (notSup hs.2) hl hs.1 (dO_ok D G z1) (dO_ok D G z2)
            · cases h
  · cases h
theorem dPart_ok (D : DenOk cfg ca lvl d) (G : Good cfg ca lvl X) {o : Option Expr} {m : EM (Option Int)} (h : dPart cfg d X.env.scope o = some m) : JP X ca m o := by
  cases o with
  | none => cases h; exact jp_none
  | some e =>
    unfold dPart at h
    dsimp only at h
    cases z : dO cfg d X.env.scope true e with
    | none => rw [z] at h; cases h
    | some n => rw [z] at h; cases h; exact jp_some (dO_ok D G z)
theorem dSub_ok (D : DenOk cfg ca lvl d) (G : Good cfg ca lvl X) {a b : Expr} {m : EM RV} {pos : Pos} (h : dSub cfg d X.env.scope a b = some m) : JE X ca m (.Subscript a b pos) := by
  unfold dSub at h
  split at h
  · rename_i lo hi st p2
    split at h
    · cases z1 : dO cfg d X.env.scope true a with
      | none => simp only [z1] at h; cases h
      | some n =>
        cases z2 : dPart cfg d X.env.scope lo with
        | none => simp only [z1, z2] at h; cases h
        | some l =>
          cases z3 : dPart cfg d X.env.scope hi with
          | none => simp only [z1, z2, z3] at h; cases h
          | some k => simp only [z1, z2, z3] at h; cases h; exact je_slc (dO_ok D G z1) (dPart_ok D G z2) (dPart_ok D G z3)
    · split at h
      · cases z1 : dO cfg d X.env.scope true a with
        | none => rw [z1] at h; cases h
        | some n => rw [z1] at h; cases h; exact je_rev (dO_ok D G z1)
      · cases h
    · cases h
  · rename_i hs
    have hs' : isSlice b = false := by
      cases b <;> first | rfl | exact absurd rfl (hs _ _ _ _)
    cases z1 : dO cfg d X.env.scope true a with
    | none => simp only [z1] at h; cases h
    | some n =>
      cases z2 : dO cfg d X.env.scope true b with
      | none => simp only [z1, z2] at h; cases h
      | some k =>
        simp only [z1, z2] at h
        cases h
        split
        · exact je_dget (by have := G.units; omega) hs' (dO_ok D G z1) (dO_ok D G z2)
        · exact je_ix hs' (dO_ok D G z1) (dO_ok D G z2)
theorem dGet_ok (D : DenOk cfg ca lvl d) (G : Good cfg ca lvl X) {o : Expr} {args : List Expr} {m : EM RV} {apos cpos : Pos} (hl : (apos.endLine == cpos.line) = true) (h : dGet cfg d X.env.scope o args = some m) : JE X ca m (.Call (.Attribute o "get" apos) args [] cpos) := by
  unfold dGet at h
  split at h
  · rename_i a b
    split at h
    · cases h
    · rename_i hs
      simp only [Bool.or_eq_true, not_or, Bool.not_eq_true] at hs
      cases z1 : dO cfg d X.env.scope true o with
      | none => simp only [z1] at h; cases h
      | some n =>
        cases z2 : dO cfg d X.env.scope true a with
        | none => simp only [z1, z2] at h; cases h
        | some k =>
          cases z3 : d.E X.env.scope b with
          | none => simp only [z1, z2, z3] at h; cases h
          | some l =>
            simp only [z1, z2, z3] at h
            cases h
            exact je_dget2 (by have := G.units; omega) hs.1.1 hs.1.2 (notSup hs.2) hl (dO_ok D G z1) (dO_ok D G z2) ((D X G).1 b l z3)
  · cases h
theorem dD_ok (D : DenOk cfg ca lvl d) (G : Good cfg ca lvl X) {pos : Pos} : ∀ {ks : List (Option Expr)} {vs : List Expr} {p : List Str × EM (List PV)}, dD d X.env.scope ks vs = some p → JD X ca pos p.1 p.2 ks vs ∧ ks.all (·.isSome) = true ∧ ks.length = vs.length
  | [], [], p, h => by cases h; exact ⟨jd_nil, rfl, rfl⟩
  | k :: ks, v :: vs, p, h => by
    unfold dD at h
    split at h
    · exact absurd ‹k :: ks = []› (by simp)
    · rename_i k0 _ _ ks0 v0 vs0 e1 e2
      cases e1
      cases e2
      cases z1 : d.E X.env.scope v with
      | none => simp only [z1] at h; cases h
      | some m =>
        cases z2 : dD d X.env.scope ks vs with
        | none => simp only [z1, z2] at h; cases h
        | some q =>
          simp only [z1, z2] at h
          cases h
          obtain ⟨h1, h2, h3⟩ := dD_ok D G z2
          exact ⟨jd_cons ((D X G).1 v m z1) h1, by simpa using h2, by simpa using h3⟩
    · cases h
  | [], _ :: _, p, h => by cases h
  | none :: _, [], p, h => by cases h
  | some k :: r, [], p, h => by
    unfold dD at h
    split at h
    · exact absurd ‹some k :: r = []› (by simp)
    · exact absurd ‹([] : List Expr) = _ :: _› (by simp)
    · cases h
theorem dAttr_ok (D : DenOk cfg ca lvl d) (G : Good cfg ca lvl X) {o : Expr} {f : Str} {m : EM RV} {pos : Pos} (h : dAttr cfg d X.env.scope o f = some m) : JE X ca m (.Attribute o f pos) := by
  unfold dAttr at h
  split at h
  · split at h
    · split at h
      · rename_i i hi
        cases h
        obtain ⟨s1, s2, s3, s4⟩ := slotOf_inv G hi
        exact je_xfl G.fq G.xp rfl s1 s2 s3 s4
      · cases h
    · cases h
  · rename_i hh
    have hh : cfg.hot = false := by simpa using hh
    split at h
    · cases h
    · rename_i hs
      cases z : dO cfg d X.env.scope true o with
      | none => rw [z] at h; cases h
      | some n =>
        rw [z] at h
        cases h
        exact je_attr G.fq (fun e he => G.pr hh e ((List.mem_filter.mp he).1)) (G.room hh) (notSup (by simpa using hs)) (dO_ok D G z)
theorem opQ_ok (G : Good cfg ca lvl X) {op : Operator} {m n : EM Opd} {a b : Expr} {pos : Pos} (ha : JO X ca m a) (hb : JO X ca n b) : JE X ca (opQ cfg op m n) (.BinOp a op b pos) := by
  unfold opQ
  split
  · exact je_bin ha hb
  · rename_i t ts ht
    obtain ⟨hh, ok⟩ := meT_ok G ht
    exact je_binX G.fq ok (G.room hh) ha hb
theorem cmpQ_ok (G : Good cfg ca lvl X) {op : CmpOp} {m n : EM Opd} {a b : Expr} {pos : Pos} (hm : behindInMarks op b = false) (ha : JO X ca m a) (hb : JO X ca n b) : JE X ca (cmpQ cfg op m n) (.Compare a [op] [b] pos) ∧ JT X ca (boolM (cmpQ cfg op m n)) (.Compare a [op] [b] pos) := by
  unfold cmpQ
  split
  · exact ⟨je_cmp G.units hm ha hb, jt_cmp G.units hm ha hb⟩
  · rename_i t ts ht
    obtain ⟨hh, ok⟩ := meT_ok G ht
    exact ⟨je_cmpX G.fq ok (G.room hh) G.units hm ha hb, jt_cmpX G.fq ok (G.room hh) G.units hm ha hb⟩
theorem dMake_ok (D : DenOk cfg ca lvl d) (G : Good cfg ca lvl X) {x : Str} {p pos : Pos} {args : List Expr} {kws : List Keyword} {m : EM RV} (h : dMake cfg d X.env.scope x p args kws = some m) : JE X ca m (.Call (.Name x p) args kws pos) := by
  unfold dMake at h
  split at h
  · rename_i hc
    simp only [Bool.and_eq_true] at hc
    obtain ⟨⟨h1, h2⟩, h3⟩ := hc
    have hh : cfg.hot = false := by simpa using h3
    have hq : ∀ q ∈ kws, q.arg.isSome = true := fun q hq => List.all_eq_true.mp h2 q hq
    have ok : ∀ e ∈ mkT cfg X.env.scope x, e.E.name = "__init__" → e.MkOk X ca lvl := fun e he => by
      unfold mkT at he
      rw [hh] at he
      simp only [Bool.false_eq_true, if_false] at he
      split at he
      · exact G.mks hh e he
      · exact G.mks hh e ((List.mem_filter.mp he).1)
    cases z1 : dO cfg d X.env.scope true (.Name x p) with
    | none => simp only [z1] at h; cases h
    | some mo =>
      cases z2 : dA cfg d X.env.scope [] args with
      | none => simp only [z1, z2] at h; cases h
      | some ms =>
        cases z3 : dK d X.env.scope kws with
        | none => simp only [z1, z2, z3] at h; cases h
        | some mk =>
          simp only [z1, z2, z3] at h
          cases h
          cases args with
          | nil =>
            have : ms = opdsNil := by unfold dA at z2; cases z2; rfl
            subst this
            exact je_make0 ok (G.room hh) hq (dO_ok D G z1) (dK_ok D G z3)
          | cons a as => exact je_make ok (G.room hh) h1 hq (dO_ok D G z1) (dA_ok D G z2) (dK_ok D G z3)
  · cases h
theorem dOwn_ok (D : DenOk cfg ca lvl d) (G : Good cfg ca lvl X) {o : Expr} {me : Str} {bor : List Bool} {apos pos : Pos} {args : List Expr} {kws : List Keyword} {m : EM RV} (hl : (apos.endLine == pos.line) = true) (h : dOwn cfg d X.env.scope o me bor args kws = some m) : JE X ca m (.Call (.Attribute o me apos) args kws pos) := by
  unfold dOwn at h
  split at h
  · rename_i hc
    simp only [Bool.and_eq_true] at hc
    obtain ⟨⟨⟨⟨h1, h2⟩, h3⟩, h4⟩, h5⟩ := hc
    have hh : cfg.hot = false := by simpa using h5
    have hq : ∀ q ∈ kws, q.arg.isSome = true := fun q hq => List.all_eq_true.mp h2 q hq
    have hn := of_decide_eq_true h3
    have hb : attributeBase o me X.env (eval o X.env) = eval o X.env := notSup (by simpa using h4)
    have ok1 : ∀ e ∈ cfg.cl.cm.filter (fun e => e.E.name == me), e.CmOk X ca lvl := fun e he => G.cm hh e ((List.mem_filter.mp he).1)
    have ok2 : ∀ e ∈ meT cfg me, e.Ok X ca lvl := fun e he => by
      unfold meT at he
      rw [hh] at he
      exact G.me hh e ((List.mem_filter.mp he).1)
    cases z1 : dO cfg d X.env.scope true o with
    | none => simp only [z1] at h; cases h
    | some mo =>
      cases z2 : dA cfg d X.env.scope bor args with
      | none => simp only [z1, z2] at h; cases h
      | some ms =>
        cases z3 : dK d X.env.scope kws with
        | none => simp only [z1, z2, z3] at h; cases h
        | some mk =>
          simp only [z1, z2, z3] at h
          cases args with
          | nil =>
            have : ms = opdsNil := by unfold dA at z2; cases z2; rfl
            subst this
            split at h
            · cases h
              exact je_cmeth0 ok1 (G.room hh) hb hl hq (by simpa using hn) (dO_ok D G z1) (dK_ok D G z3)
            · cases h
              exact je_meth0 ok2 (G.room hh) hb hl hq (by simpa using hn) (dO_ok D G z1) (dK_ok D G z3)
          | cons a as =>
            split at h
            · cases h
              exact je_cmeth ok1 (G.room hh) hb hl h1 hq hn (dO_ok D G z1) (dA_ok D G z2) (dK_ok D G z3)
            · cases h
              exact je_meth ok2 (G.room hh) hb hl h1 hq hn (dO_ok D G z1) (dA_ok D G z2) (dK_ok D G z3)
  · cases h
theorem dE_ok (D : DenOk cfg ca lvl d) (G : Good cfg ca lvl X) {e : Expr} {m : EM RV} (h : dE cfg d X.env.scope e = some m) : JE X ca m e := by
  cases e with
  | Constant c j pos =>
    cases c with
    | int i => cases h; exact je_int
    | bool b => cases h; exact je_bl
    | str x => cases h; exact je_str
    | none => cases h; exact je_non
    | _ => cases h
  | Name x pos =>
    unfold dE at h
    dsimp only at h
    split at h
    · rename_i i hi
      cases h
      obtain ⟨h1, h2, h3, h4⟩ := slotOf_inv G hi
      exact je_name h1 h2 h3 h4
    · split at h
      · rename_i hx
        obtain ⟨x1, x2⟩ := Bool.and_eq_true_iff.mp hx
        cases z : cfg.bs.consts.find? (fun p => p.1 == x) with
        | none => rw [z] at h; cases h
        | some p =>
          rw [z] at h
          cases h
          have e0 := List.find?_some z
          have e1 : p.1 = x := beq_iff_eq.mp e0
          obtain ⟨u, v, g1, g2, g3⟩ := G.consts p (List.mem_of_find?_eq_some z)
          rw [e1] at g1
          exact je_glob (isGlob_inv x2) g1 g2 g3 (okName_inv x1).1
      · cases h
  | Tuple es k pos =>
    unfold dE at h
    dsimp only at h
    cases z : dV d X.env.scope es with
    | none => rw [z] at h; cases h
    | some n => rw [z] at h; cases h; exact je_tup (dV_ok D G z)
  | List es pos =>
    unfold dE at h
    dsimp only at h
    cases z : dV d X.env.scope es with
    | none => rw [z] at h; cases h
    | some n => rw [z] at h; cases h; exact je_lst (dV_ok D G z)
  | Dict ks vs pos =>
    unfold dE at h
    dsimp only at h
    split at h
    · rename_i hk
      simp only [Bool.and_eq_true, Bool.not_eq_true', decide_eq_true_eq] at hk
      cases z : dD d X.env.scope ks vs with
      | none => rw [z] at h; cases h
      | some p =>
        rw [z] at h
        cases h
        obtain ⟨h1, h2, h3⟩ := dD_ok D G (pos := pos) z
        exact je_disp h1 h2 h3 (fun e => by rw [e] at hk; exact absurd hk.1 (by decide)) hk.2
    · cases h
  | BinOp a op b pos =>
    unfold dE at h
    dsimp only at h
    cases z1 : dO cfg d X.env.scope true a with
    | none => simp only [z1] at h; cases h
    | some n =>
      cases z2 : dO cfg d X.env.scope true b with
      | none => simp only [z1, z2] at h; cases h
      | some k => simp only [z1, z2] at h; cases h; exact opQ_ok G (dO_ok D G z1) (dO_ok D G z2)
  | UnaryOp op a pos =>
    unfold dE at h
    dsimp only at h
    cases z1 : dO cfg d X.env.scope true a with
    | none =>
      cases op <;> simp only [z1] at h <;> try (cases h; done)
      split at h <;> cases h
    | some n =>
      cases op <;> simp only [z1] at h
      · split at h
        · cases h
        · rename_i hh
          have hh : cfg.hot = false := by simpa using hh
          cases h
          exact je_invX (fun e he => by unfold meT at he; rw [hh] at he; exact G.me hh e ((List.mem_filter.mp he).1)) (G.room hh) (dO_ok D G z1)
      · cases h; exact je_not (dO_ok D G z1)
      · cases h
      · cases h; exact je_neg (dO_ok D G z1)
  | BoolOp op es pos => exact dBE_ok D G h
  | Compare a ops bs pos =>
    unfold dE at h
    dsimp only at h
    split at h
    · rename_i op b
      split at h
      · cases h
      · rename_i hm
        cases z1 : dO cfg d X.env.scope true a with
        | none => simp only [z1] at h; cases h
        | some n =>
          cases z2 : dO cfg d X.env.scope true b with
          | none => simp only [z1, z2] at h; cases h
          | some k => simp only [z1, z2] at h; cases h; exact (cmpQ_ok G (by simpa using hm) (dO_ok D G z1) (dO_ok D G z2)).1
    · rename_i op op' b c
      split at h
      · cases h
      · rename_i hm
        cases z1 : dO cfg d X.env.scope true a with
        | none => simp only [z1] at h; cases h
        | some n =>
          cases z2 : dO cfg d X.env.scope true b with
          | none => simp only [z1, z2] at h; cases h
          | some k =>
            cases z3 : dO cfg d X.env.scope true c with
            | none => simp only [z1, z2, z3] at h; cases h
            | some l => simp only [z1, z2, z3] at h; cases h; exact je_chain G.units (by simpa using hm) (dO_ok D G z1) (dO_ok D G z2) (dO_ok D G z3)
    · cases h
  | IfExp t a b pos =>
    unfold dE at h
    dsimp only at h
    cases z1 : d.T X.env.scope t with
    | none => simp only [z1] at h; cases h
    | some n =>
      cases z2 : d.E X.env.scope a with
      | none => simp only [z1, z2] at h; cases h
      | some k =>
        cases z3 : d.E X.env.scope b with
        | none => simp only [z1, z2, z3] at h; cases h
        | some l => simp only [z1, z2, z3] at h; cases h; exact je_if ((D X G).2 t n z1) ((D X G).1 a k z2) ((D X G).1 b l z3)
  | Subscript a b pos =>
    exact dSub_ok D G h
  | Attribute o f pos => exact dAttr_ok D G h
  | Call f args kws cpos =>
    unfold dE at h
    dsimp only at h
    split at h
    · split at h
      · rename_i e
        subst e
        exact dIsi_ok D G h
      · split at h
        · exact dCall_ok D G h
        · exact dMake_ok D G h
    · split at h
      · rename_i k2
        split at h
        · split at h
          · rename_i k1
            have hk : kws = [] := by simpa using k1
            subst hk
            exact dStr_ok D G k2 h
          · cases h
        · split at h
          · split at h
            · rename_i k1
              have hk : kws = [] := by simpa using k1
              subst hk
              split at h
              · exact dMeth_ok D G k2 h
              · cases h
            · cases h
          · split at h
            · rename_i k3
              split at h
              · rename_i k1
                have hk : kws = [] := by simpa using k1
                subst hk
                obtain ⟨rfl, _⟩ := k3
                exact dGet_ok D G k2 h
              · cases h
            · exact dOwn_ok D G k2 h
      · cases h
    · cases h
  | ListComp elt gs scope pos => exact (dLc_ok D G h).1 pos
  | FormattedValue a c f pos =>
    unfold dE at h
    dsimp only at h
    split at h
    · split at h
      · rename_i e
        subst e
        cases z : dO cfg d X.env.scope true a with
        | none => rw [z] at h; cases h
        | some n => rw [z] at h; cases h; exact je_fmt (dO_ok D G z)
      · cases h
    · cases h
  | JoinedStr es pos =>
    unfold dE at h
    dsimp only at h
    split at h
    · exact je_fj1 ((D X G).1 _ m h)
    · rename_i e e' es
      cases z : dFs d X.env.scope (e :: e' :: es) with
      | none => rw [z] at h; cases h
      | some ms => rw [z] at h; cases h; exact je_fj (dFs_ok D G z)
    · cases h
  | _ => cases h
theorem dT_ok (D : DenOk cfg ca lvl d) (G : Good cfg ca lvl X) {e : Expr} {m : EM Bool} (h : dT cfg d X.env.scope e = some m) : JT X ca m e := by
  have gen : (∀ whole, isTrue e X.env whole = (do let v ← whole; standAt e.pos; holding [v] (truthy v))) → (if plainT e = true then (dO cfg d X.env.scope true e).map truM else none) = some m → JT X ca m e := fun he h => by
    split at h
    · cases z : dO cfg d X.env.scope true e with
      | none => rw [z] at h; cases h
      | some n => rw [z] at h; cases h; exact jt_tru (dO_ok D G z) he
    · cases h
  cases e with
  | UnaryOp op a pos =>
    cases op with
    | Not =>
      unfold dT at h
      dsimp only at h
      cases z : d.T X.env.scope a with
      | none => rw [z] at h; cases h
      | some n => rw [z] at h; cases h; exact jt_not ((D X G).2 a n z)
    | _ => exact gen (fun _ => rfl) h
  | BoolOp op es pos => exact jt_of_w (dBT_ok D G h)
  | IfExp t a b pos => cases h
  | Compare a ops bs pos =>
    unfold dT at h
    dsimp only at h
    split at h
    · rename_i op b
      split at h
      · cases h
      · rename_i hm
        cases z1 : dO cfg d X.env.scope true a with
        | none => simp only [z1] at h; cases h
        | some n =>
          cases z2 : dO cfg d X.env.scope true b with
          | none => simp only [z1, z2] at h; cases h
          | some k => simp only [z1, z2] at h; cases h; exact (cmpQ_ok G (by simpa using hm) (dO_ok D G z1) (dO_ok D G z2)).2
    · rename_i op op' b c
      split at h
      · cases h
      · rename_i hm
        cases z1 : dO cfg d X.env.scope true a with
        | none => simp only [z1] at h; cases h
        | some n =>
          cases z2 : dO cfg d X.env.scope true b with
          | none => simp only [z1, z2] at h; cases h
          | some k =>
            cases z3 : dO cfg d X.env.scope true c with
            | none => simp only [z1, z2, z3] at h; cases h
            | some l => simp only [z1, z2, z3] at h; cases h; exact jt_chain G.units (by simpa using hm) (dO_ok D G z1) (dO_ok D G z2) (dO_ok D G z3)
    · cases h
  | _ => exact gen (fun _ => rfl) h
theorem den_ok : ∀ n, DenOk cfg ca lvl (den cfg n)
  | 0 => fun X G => ⟨fun _ _ h => (by cases h), fun _ _ h => (by cases h)⟩
  | n + 1 => fun X G => ⟨fun e m h => by
      cases h
      cases z : dE cfg (den cfg n) X.env.scope e with
      | none => exact je_bad
      | some m => exact dE_ok (den_ok n) G z, fun e m h => by
      cases h
      cases z : dT cfg (den cfg n) X.env.scope e with
      | none => exact jt_bad
      | some m => exact dT_ok (den_ok n) G z⟩
end
end QB

namespace QB
open PySem L2
structure GoodS (cfg : Cfg) (ca : CA) (lvl : Nat) (X : Cx) : Prop extends Good cfg ca lvl X where
  fn : ∀ x, X.fn x = true
  passes : cfg.hot = false → PassesOwn (model X.prog X.w) X.A X.env X.xe
  kind : X.env.scope.kind = .function
  stk : X.stack = X.env :: X.outer
  frm : X.env.frame = some X.env.locals
abbrev Cfg.hotten (cfg : Cfg) : Cfg := { cfg with hot := true }
def allFn : Str → Bool := fun _ => true
/-- a, b = x, y is stored without a tuple -/
def parOk (sc : Scope) (x y : Str) (px py : Pos) (a b : Expr) : Bool :=
  decide (sc.names.lookup x = some .local) && decide (sc.names.lookup y = some .local) && decide (px.line = py.line) && decide (x ≠ y) && !isStar a && !isStar b && !([a, b].all (foldedForSure 8)) && !([a, b].all (constantsAlone 8))
def parOk3 (sc : Scope) (x y z : Str) (px py pz : Pos) (a b c : Expr) : Bool :=
  decide (sc.names.lookup x = some .local) && decide (sc.names.lookup y = some .local) && decide (sc.names.lookup z = some .local) && decide (px.line = py.line) && decide (px.line = pz.line) && decide (x ≠ y) && decide (x ≠ z) && decide (y ≠ z) && noStars [a, b, c] && !([a, b, c].all (foldedForSure 8)) && !([a, b, c].all (constantsAlone 8))
def isTuple : Expr → Bool
  | .Tuple _ _ _ => true
  | _ => false
/-- a, b, .. = e, e no display -/
def unpM (b : Bnd) (m : EM RV) : SM := thenS m fun r e => optS (b r.pv e)
/-- name = [..] is stored as any value is -/
def noSw (sc scope : Scope) (y : Str) (py vp : Pos) : Bool := !(swB sc scope y py vp)
def dTupA (cfg : Cfg) (d : Den) (sc : Scope) (es : List Expr) (k : Nat) (p : Pos) (a : Expr) : Option SM := if cfg.hot then none else match es, a with
  | [.Name x px, .Name y py], .Tuple [a, b] _ _ => if parOk sc x y px py a b then match locOf cfg allFn sc x, locOf cfg allFn sc y, dV d sc [a, b] with
    | some i, some j, some m => some (asg2M i j m)
    | _, _, _ => none else none
  | [.Name x px, .Name y py, .Name z pz], .Tuple [a, b, c] _ _ => if parOk3 sc x y z px py pz a b c then match locOf cfg allFn sc x, locOf cfg allFn sc y, locOf cfg allFn sc z, dV d sc [a, b, c] with
    | some i, some j, some l, some m => some (asg3M i j l m)
    | _, _, _, _ => none else none
  | es, a => if (isTuple a && (es.length == 2 || es.length == 3)) || isComp a then none else match dG cfg allFn sc (.Tuple es k p), d.E sc a with
    | some t, some m => some (unpM t.b m)
    | _, _ => none
/-- the classes by their names -/
def isCls (cfg : Cfg) (sc : Scope) (x : Str) : Bool := okName x && isGlob sc x && cfg.bs.consts.any (fun p => p.1 == x && (match p.2 with
  | .cls c => c == x
  | _ => false))
def dRaise (cfg : Cfg) (sc : Scope) : Expr → Option SM
  | .Call (.Name x _) [] [] _ => if isCls cfg sc x && xc0T cfg.bs.fq x && !cfg.hot then some (raiseM ⟨x, [], []⟩) else none
  | _ => none
def dTry (cfg : Cfg) (bl bh : Scope → List Stmt → Option SM) (sc : Scope) (body : List Stmt) : List ExceptHandler → Option SM
  | [.ExceptHandler (some (.Name x _)) (some n) (b₀ :: suite) _] => if isCls cfg sc x && !cfg.hot && decide (sc.names.lookup n = some .local) then match cfg.N.findIdx? (· == n), bl sc body, bh sc (b₀ :: suite) with
    | some i, some mb, some mh => some (tryAs cfg.bs.fq mb x i mh)
    | _, _, _ => none else none
  | [.ExceptHandler (some (.Name x _)) none (b₀ :: suite) _] => if isCls cfg sc x && !cfg.hot then match bl sc body, bh sc (b₀ :: suite) with
    | some mb, some mh => some (tryOn cfg.bs.fq mb x mh)
    | _, _ => none else none
  | _ => none
/-- match's cases: texts -/
def dCs (bl : Scope → List Stmt → Option SM) (sc : Scope) : List MatchCase → Option (List (Str × SM))
  | [] => some []
  | ⟨.MatchValue (.Constant (.str y) _ _) _, none, body⟩ :: cs => (match bl sc body, dCs bl sc cs with
    | some m, some ms => some ((y, m) :: ms)
    | _, _ => none)
  | _ :: _ => none
def dS (cfg : Cfg) (d : Den) (bl bh : Scope → List Stmt → Option SM) (sc : Scope) : Stmt → Option SM
  | .Assign ts a _ => match ts with
    | [.Name x px] => match a with
      | .ListComp elt gs scope pos => match locOf cfg allFn sc x, dLc cfg d sc elt gs scope with
        | some i, some m => if swB sc scope x px pos || noSw sc scope x px pos then some (asgM i m) else none
        | _, _ => none
      | a => if isComp a then none else match locOf cfg allFn sc x, d.E sc a with
        | some i, some m => some (asgM i m)
        | _, _ => none
    | [.Subscript (.Name x _) k _] => if isSlice k || isComp a then none else match slotOf cfg sc x, dO cfg d sc true k, d.E sc a with
      | some i, some mk, some mv => some (setIxM i mk mv)
      | _, _, _ => none
    | [.Tuple es k p] => dTupA cfg d sc es k p a
    | [.Attribute (.Name x _) f _] => if isComp a then none else match slotOf cfg sc x, d.E sc a with
      | some i, some mv => some (stoM cfg.bs.fq i f mv)
      | _, _ => none
    | _ => none
  | .Return r _ => match r with
    | some a => (d.E sc a).map retM
    | none => some fun e => .rt (.val .non) e
  | .If t a b _ => match d.T sc t, bl sc a, bl sc b with
    | some t, some a, some b => some (thenS t fun k => if k then a else b)
    | _, _, _ => none
  | .Expr a _ => if isComp a then none else (d.E sc a).map exprM
  | .Pass _ => some skipM
  | .Break _ => some fun e => .bk e
  | .Continue _ => some fun e => .ct e
  | .For tg iter body orelse _ => if !orelse.isEmpty || cfg.hot then none else match dG cfg allFn sc tg, dI cfg d sc tg iter, bl sc body with
    | some t, some m, some mb => some (forI t.b m mb)
    | _, _, _ => none
  | .Match a cs _ => match d.E sc a, dCs bl sc cs with
    | some m, some ms => some (matM m ms)
    | _, _ => none
  | .AugAssign t op a _ => match t with
    | .Name x _ => if cfg.hot then none else match locOf cfg allFn sc x, dO cfg d sc true a with
      | some i, some n => some (asgM i (twoO (slotM i) n (ipX cfg.bs.fq (meT cfg (PySem.dunder op.info.2)) op)))
      | _, _ => none
    | _ => none
  | .Raise (some e) none _ => dRaise cfg sc e
  | .Try body hs orelse fin _ => if !orelse.isEmpty || !fin.isEmpty then none else dTry cfg bl bh sc body hs
  | _ => none
def dBl (cfg : Cfg) (d : Den) (bl bh : Scope → List Stmt → Option SM) (sc : Scope) : List Stmt → SM
  | [] => skipM
  | [s] => (dS cfg d bl bh sc s).getD badS
  | s :: ss => seqM ((dS cfg d bl bh sc s).getD badS) (dBl cfg d bl bh sc ss)
def denB (cfg : Cfg) (d : Den) (bh : Scope → List Stmt → Option SM) : Nat → Scope → List Stmt → Option SM
  | 0, _, _ => none
  | n + 1, sc, ss => some (dBl cfg d (denB cfg d bh n) bh sc ss)
def BlOk (cfg : Cfg) (ca : CA) (lvl : Nat) (bl : Scope → List Stmt → Option SM) : Prop := ∀ X, GoodS cfg ca lvl X → ∀ ss m, bl X.env.scope ss = some m → JSs X ca m ss
section
variable {cfg : Cfg} {ca : CA} {lvl : Nat} {X : Cx} {d : Den} {bl bh : Scope → List Stmt → Option SM}
theorem GoodS.fo (G : GoodS cfg ca lvl X) : ∀ x, allFn x = true → X.fn x = true := fun x _ => G.fn x
theorem par_swap (G : GoodS cfg ca lvl X) {x y : Str} {px py pt : Pos} {a b : Expr} {kt k2 : Nat} {pt2 : Pos} (h : parOk X.env.scope x y px py a b = true) :
    swappedStores [.Tuple [.Name x px, .Name y py] kt pt] (.Tuple [a, b] k2 pt2) X.env = pure (some [x, y]) := by
  unfold parOk at h
  simp only [Bool.and_eq_true, decide_eq_true_eq, Bool.not_eq_true'] at h
  obtain ⟨⟨⟨⟨⟨⟨⟨h1, h2⟩, h3⟩, h4⟩, h5⟩, h6⟩, h7⟩, h8⟩ := h
  have k1 : X.env.kindOf x = some .local := h1
  have k2 : X.env.kindOf y = some .local := h2
  have hb : X.env.blockKind = .function := by unfold Env.blockKind; rw [G.kind]; rfl
  have e3 : ([x, y].eraseDups.length != [x, y].length) = false := by
    have hne : (y == x) = false := beq_eq_false_iff_ne.mpr (Ne.symm h4)
    have : [x, y].eraseDups = [x, y] := by simp [List.eraseDups_cons, hne]
    rw [this]; simp
  unfold swappedStores
  dsimp only
  have hl : (X.env.kindOf x == some .local && px.line == px.line) = true := by rw [k1]; simp
  have hl2 : (X.env.kindOf y == some .local && py.line == px.line) = true := by rw [k2, h3]; simp
  simp only [List.length_cons, List.length_nil, hb, List.any_cons, List.any_nil, List.filterMap_cons, List.filterMap_nil, List.head?_cons, Option.map_some, Option.getD_some, Expr.pos, hl, hl2, if_true, h7, h8]
  rw [if_neg (by decide), if_neg ?_, if_neg ?_]
  · rfl
  · simp only [List.length_cons, List.length_nil] at e3
    rw [e3]; decide
  · intro h
    rcases Bool.or_eq_true_iff.mp h with h | h
    · revert h
      cases a <;> first | (intro h; cases h; done) | cases h5
    · rcases Bool.or_eq_true_iff.mp h with h | h
      · revert h
        cases b <;> first | (intro h; cases h; done) | cases h6
      · cases h
theorem par_swap3 (G : GoodS cfg ca lvl X) {x y z : Str} {px py pz pt : Pos} {a b c : Expr} {kt k2 : Nat} {pt2 : Pos} (h : parOk3 X.env.scope x y z px py pz a b c = true) :
    swappedStores [.Tuple [.Name x px, .Name y py, .Name z pz] kt pt] (.Tuple [a, b, c] k2 pt2) X.env = pure (some [x, y, z]) := by
  unfold parOk3 at h
  simp only [Bool.and_eq_true, decide_eq_true_eq, Bool.not_eq_true'] at h
  obtain ⟨⟨⟨⟨⟨⟨⟨⟨⟨⟨h1, h2⟩, h3⟩, l1⟩, l2⟩, n1⟩, n2⟩, n3⟩, st⟩, h7⟩, h8⟩ := h
  have k1 : X.env.kindOf x = some .local := h1
  have k2' : X.env.kindOf y = some .local := h2
  have k3 : X.env.kindOf z = some .local := h3
  have hb : X.env.blockKind = .function := by unfold Env.blockKind; rw [G.kind]; rfl
  have e3 : ([x, y, z].eraseDups.length != [x, y, z].length) = false := by
    have hne1 : (y == x) = false := beq_eq_false_iff_ne.mpr (Ne.symm n1)
    have hne2 : (z == x) = false := beq_eq_false_iff_ne.mpr (Ne.symm n2)
    have hne3 : (z == y) = false := beq_eq_false_iff_ne.mpr (Ne.symm n3)
    have : [x, y, z].eraseDups = [x, y, z] := by simp [List.eraseDups_cons, hne1, hne2, hne3]
    rw [this]; simp
  unfold swappedStores
  dsimp only
  have hl : (X.env.kindOf x == some .local && px.line == px.line) = true := by rw [k1]; simp
  have hl2 : (X.env.kindOf y == some .local && py.line == px.line) = true := by rw [k2', l1]; simp
  have hl3 : (X.env.kindOf z == some .local && pz.line == px.line) = true := by rw [k3, l2]; simp
  have sa : isStar a = false ∧ isStar b = false ∧ isStar c = false := by
    unfold noStars at st
    simpa using st
  simp only [List.length_cons, List.length_nil, hb, List.any_cons, List.any_nil, List.filterMap_cons, List.filterMap_nil, List.head?_cons, Option.map_some, Option.getD_some, Expr.pos, hl, hl2, hl3, if_true, h7, h8]
  rw [if_neg (by decide), if_neg ?_, if_neg ?_]
  · rfl
  · simp only [List.length_cons, List.length_nil] at e3
    rw [e3]; decide
  · intro h
    rcases Bool.or_eq_true_iff.mp h with h | h
    · revert h
      have := sa.1
      cases a <;> first | (intro h; cases h; done) | cases this
    · rcases Bool.or_eq_true_iff.mp h with h | h
      · revert h
        have := sa.2.1
        cases b <;> first | (intro h; cases h; done) | cases this
      · rcases Bool.or_eq_true_iff.mp h with h | h
        · revert h
          have := sa.2.2
          cases c <;> first | (intro h; cases h; done) | cases this
        · cases h
theorem noswap_len {es : List Expr} {k : Nat} {p : Pos} {a : Expr} {env : Env} (h2 : (es.length == 2 || es.length == 3) = false) : swappedStores [.Tuple es k p] a env = pure none := by
  cases a <;> first | rfl | skip
  unfold swappedStores
  simp only [h2, Bool.not_false, Bool.true_or, if_true] <;> rfl
theorem noswap_tup {es : List Expr} {k : Nat} {p : Pos} {a : Expr} {env : Env} (h : isTuple a = false) : swappedStores [.Tuple es k p] a env = pure none := by
  cases a <;> first | rfl | cases h
theorem js_unp {es : List Expr} {k : Nat} {p : Pos} {a : Expr} {t : Tgt} {m : EM RV} {pos : Pos} (ht : swappedStores [.Tuple es k p] a X.env = pure none) (hc : isComp a = false) (hg : JG X t (.Tuple es k p)) (h : JE X ca m a) : JS X ca (unpM t.b m) (.Assign [.Tuple es k p] a pos) := fun W tk => by
  refine PS.imp (ps_asg (h W tk) hg (by unfold swapsWithSole; exact swaps_none hc) ht rfl) fun D σ H ⟨c, M, e, S, q⟩ => SRdAt.thenS q S fun r v H1 M1 e1 S1 _ rr q1 => ?_
  unfold SRdAt at q1
  dsimp only at q1
  cases z : t.b r.pv e1 with
  | none => rw [z] at q1; exact False.elim q1
  | some e2 =>
    rw [z] at q1
    exact t.ok c M1 σ H1 e1 r.pv v _ e2 S1 rr.1 z fun σ' S' _ => q1 σ' H1 M1 S'
theorem isCls_inv (G : Good cfg ca lvl X) {x : Str} (h : isCls cfg X.env.scope x = true) : Gl X x ∧ (x == ("__debug__" : Str)) = false ∧ X.mg x = some (.ref (He.ga X.K x)) := by
  unfold isCls at h
  obtain ⟨h12, h3⟩ := Bool.and_eq_true_iff.mp h
  obtain ⟨h1, h2⟩ := Bool.and_eq_true_iff.mp h12
  refine ⟨isGlob_inv h2, (okName_inv h1).1, ?_⟩
  obtain ⟨q, hq, hr⟩ := List.any_eq_true.mp h3
  obtain ⟨r1, r2⟩ := Bool.and_eq_true_iff.mp hr
  obtain ⟨u, v, g1, g2, g3⟩ := G.consts q hq
  obtain ⟨q1, q2⟩ := q
  dsimp only at r1 r2 g1 g3
  have e1 := beq_iff_eq.mp r1
  subst e1
  cases q2 <;> first | (cases r2; done) | skip
  case cls c =>
    have e2 := beq_iff_eq.mp r2
    subst e2
    have k := g3 (fun _ => none)
    cases k
    have k2 : u = Value.ref (ca c) := g2
    rw [k2, G.fq.at_] at g1
    exact g1
theorem dTupA_ok (D : DenOk cfg ca lvl d) (G : GoodS cfg ca lvl X) {es : List Expr} {k : Nat} {p pos : Pos} {a : Expr} {m : SM} (h : dTupA cfg d X.env.scope es k p a = some m) : JS X ca m (.Assign [.Tuple es k p] a pos) := by
  have nd : X.N.Nodup := by rw [G.hN]; exact G.nd
  unfold dTupA at h
  split at h
  · cases h
  · rename_i hh
    have hh : cfg.hot = false := by simpa using hh
    split at h
    · rename_i x px y py a b kt pt
      split at h
      · rename_i hp
        cases z1 : locOf cfg allFn X.env.scope x with
        | none => simp only [z1] at h; cases h
        | some i =>
          cases z2 : locOf cfg allFn X.env.scope y with
          | none => simp only [z1, z2] at h; cases h
          | some j =>
            cases z3 : dV d X.env.scope [a, b] with
            | none => simp only [z1, z2, z3] at h; cases h
            | some l =>
              simp only [z1, z2, z3] at h
              cases h
              obtain ⟨h1, _⟩ := locOf_inv G.toGood G.fo z1
              obtain ⟨h2, _⟩ := locOf_inv G.toGood G.fo z2
              have hp' := hp
              unfold parOk at hp'
              simp only [Bool.and_eq_true, decide_eq_true_eq] at hp'
              obtain ⟨⟨⟨⟨⟨⟨⟨k1, k2⟩, _⟩, k4⟩, _⟩, _⟩, _⟩, _⟩ := hp'
              exact js_par (G.calm hh) nd h1 h2 (fun z => k4 (by rw [z, h2] at h1; exact (Option.some.inj h1).symm)) k1 k2 (dV_ok D G.toGood z3) (par_swap G hp)
      · cases h
    · rename_i x px y py z pz a b c kt pt
      split at h
      · rename_i hp
        cases z1 : locOf cfg allFn X.env.scope x with
        | none => simp only [z1] at h; cases h
        | some i =>
          cases z2 : locOf cfg allFn X.env.scope y with
          | none => simp only [z1, z2] at h; cases h
          | some j =>
            cases z4 : locOf cfg allFn X.env.scope z with
            | none => simp only [z1, z2, z4] at h; cases h
            | some l =>
            cases z3 : dV d X.env.scope [a, b, c] with
            | none => simp only [z1, z2, z3, z4] at h; cases h
            | some n =>
              simp only [z1, z2, z3, z4] at h
              cases h
              obtain ⟨h1, _⟩ := locOf_inv G.toGood G.fo z1
              obtain ⟨h2, _⟩ := locOf_inv G.toGood G.fo z2
              obtain ⟨h3, _⟩ := locOf_inv G.toGood G.fo z4
              have hp' := hp
              unfold parOk3 at hp'
              simp only [Bool.and_eq_true, decide_eq_true_eq] at hp'
              obtain ⟨⟨⟨⟨⟨⟨⟨⟨⟨⟨k1, k2⟩, k3⟩, _⟩, _⟩, n1⟩, n2⟩, n3⟩, _⟩, _⟩, _⟩ := hp'
              exact js_par3 (G.calm hh) nd h1 h2 h3 (fun z => n1 (by rw [z, h2] at h1; exact (Option.some.inj h1).symm)) (fun z => n2 (by rw [z, h3] at h1; exact (Option.some.inj h1).symm)) (fun z => n3 (by rw [z, h3] at h2; exact (Option.some.inj h2).symm)) k1 k2 k3 (dV_ok D G.toGood z3) (par_swap3 G hp)
      · cases h
    · split at h
      · cases h
      · rename_i hc
        simp only [Bool.or_eq_true, not_or, Bool.not_eq_true] at hc
        cases z1 : dG cfg allFn X.env.scope (.Tuple es k p) with
        | none => simp only [z1] at h; cases h
        | some b =>
          cases z2 : d.E X.env.scope a with
          | none => simp only [z1, z2] at h; cases h
          | some n =>
            simp only [z1, z2] at h
            cases h
            refine js_unp ?_ hc.2 (dG_ok G.toGood G.fo z1) ((D X G.toGood).1 a n z2)
            cases zt : isTuple a with
            | false => exact noswap_tup zt
            | true =>
              have h1 := hc.1
              rw [zt, Bool.true_and] at h1
              exact noswap_len h1
theorem dRaise_ok (G : GoodS cfg ca lvl X) {e : Expr} {m : SM} {pos : Pos} (h : dRaise cfg X.env.scope e = some m) : JS X ca m (.Raise (some e) none pos) := by
  unfold dRaise at h
  split at h
  · split at h
    · rename_i x px cp hc
      obtain ⟨h12, h3⟩ := Bool.and_eq_true_iff.mp hc
      obtain ⟨h1, h2⟩ := Bool.and_eq_true_iff.mp h12
      cases h
      obtain ⟨g1, g2, g3⟩ := isCls_inv G.toGood h1
      exact js_raise0 G.fq h2 (G.calm (by simpa using h3)) g1 g3 g2
    · cases h
  · cases h
theorem GoodS.tr (G : GoodS cfg ca lvl X) (hh : cfg.hot = false) {pn : List (Addr × Obj)} {xe : Value → Shared → Prop} (po : PassesOwn (model X.prog X.w) X.A X.env xe) : GoodS cfg ca lvl (X.tr pn xe) :=
  ⟨⟨G.hN, G.nd, G.units, G.calm, G.room, G.fns, G.gd, G.consts, G.frees, G.fq, (fun a cls d h => by rw [G.nox hh] at h; cases h), G.nox, G.me, G.mks, G.cm, G.pr⟩, G.fn, fun _ => po, G.kind, G.stk, G.frm⟩
theorem GoodS.suite (G : GoodS cfg ca lvl X) (hh : cfg.hot = false) {a : Addr} {oe : Obj} {cls : Value} {d : Option Addr} {pn : List (Addr × Obj)} (hz : Zc cls d oe) (hf : ∃ vs, oe.data = .fields vs) :
    GoodS cfg.hotten (ca.to fun b => if b = a then some (cls, d) else none) lvl (X.suite a ((a, oe) :: pn)) :=
  ⟨⟨G.hN, G.nd, G.units, (fun z => by cases z), (fun z => by cases z), (fun z => by cases z), G.gd, fun p hp => by
      obtain ⟨u, v, h1, h2, h3⟩ := G.consts p hp
      exact ⟨u, v, h1, h2, fun G' => (h3 G').to⟩, G.frees, ⟨G.fq.ok, G.fq.at_⟩, (fun b c' d' h => by
      dsimp only at h
      split at h
      · rename_i e
        subst e
        cases h
        obtain ⟨vs, hv⟩ := hf
        exact ⟨oe, vs, List.mem_cons_self, hz, hv⟩
      · cases h), (fun z => by cases z), (fun z => by cases z), (fun z => by cases z), (fun z => by cases z), (fun z => by cases z)⟩, G.fn, (fun z => by cases z), G.kind, G.stk, G.frm⟩
theorem GoodS.suite0 (G : GoodS cfg ca lvl X) (hh : cfg.hot = false) {a : Addr} {pn : List (Addr × Obj)} : GoodS cfg.hotten ca lvl (X.suite a pn) :=
  ⟨⟨G.hN, G.nd, G.units, (fun z => by cases z), (fun z => by cases z), (fun z => by cases z), G.gd, G.consts, G.frees, G.fq, (fun b c' d' h => by rw [G.nox hh] at h; cases h), (fun z => by cases z), (fun z => by cases z), (fun z => by cases z), (fun z => by cases z), (fun z => by cases z)⟩, G.fn, (fun z => by cases z), G.kind, G.stk, G.frm⟩
theorem dTry_ok (B : BlOk cfg ca lvl bl) (BH : ∀ ca', BlOk cfg.hotten ca' lvl bh) (G : GoodS cfg ca lvl X) {body : List Stmt} {hs : List ExceptHandler} {m : SM} {pos : Pos} (h : dTry cfg bl bh X.env.scope body hs = some m) : JS X ca m (.Try body hs [] [] pos) := by
  have nd : X.N.Nodup := by rw [G.hN]; exact G.nd
  unfold dTry at h
  split at h
  · split at h
    · rename_i x np n b₀ suite pos' hc
      obtain ⟨h12, h3⟩ := Bool.and_eq_true_iff.mp hc
      obtain ⟨h1, h2⟩ := Bool.and_eq_true_iff.mp h12
      have hh : cfg.hot = false := by simpa using h2
      obtain ⟨g1, g2, g3⟩ := isCls_inv G.toGood h1
      cases z1 : cfg.N.findIdx? (· == n) with
      | none => simp only [z1] at h; cases h
      | some i =>
        cases z2 : bl X.env.scope body with
        | none => simp only [z1, z2] at h; cases h
        | some mb =>
          cases z3 : bh X.env.scope (b₀ :: suite) with
          | none => simp only [z1, z2, z3] at h; cases h
          | some mh =>
            simp only [z1, z2, z3] at h
            cases h
            exact js_tryAs G.fq (G.nox hh) G.stk G.frm nd (by rw [G.hN]; exact findIdx_get z1) (of_decide_eq_true h3) g1 g2 g3 (fun pn xe po => B _ (G.tr hh po) body mb z2) fun a oe cls d pn hz hf => BH _ _ (G.suite hh hz hf) _ mh z3
    · cases h
  · split at h
    · rename_i x np b₀ suite pos' hc
      obtain ⟨h1, h2⟩ := Bool.and_eq_true_iff.mp hc
      have hh : cfg.hot = false := by simpa using h2
      obtain ⟨g1, g2, g3⟩ := isCls_inv G.toGood h1
      cases z2 : bl X.env.scope body with
      | none => simp only [z2] at h; cases h
      | some mb =>
        cases z3 : bh X.env.scope (b₀ :: suite) with
        | none => simp only [z2, z3] at h; cases h
        | some mh =>
          simp only [z2, z3] at h
          cases h
          exact js_tryOn G.fq G.stk G.frm g1 g2 g3 (fun pn xe po => B _ (G.tr hh po) body mb z2) fun a pn => BH _ _ (G.suite0 hh) _ mh z3
    · cases h
  · cases h
theorem dCs_ok (B : BlOk cfg ca lvl bl) (G : GoodS cfg ca lvl X) : ∀ {cs : List MatchCase} {ms : List (Str × SM)}, dCs bl X.env.scope cs = some ms → CasesAt X ca cs ms
  | [], ms, h => by cases h; exact .nil
  | c :: cs, ms, h => by
    unfold dCs at h
    split at h
    · rename_i ec; cases ec
    · rename_i y k p pos body cs' ec
      cases ec
      cases z1 : bl X.env.scope body with
      | none => simp only [z1] at h; cases h
      | some m =>
        cases z2 : dCs bl X.env.scope cs with
        | none => simp only [z1, z2] at h; cases h
        | some ms' =>
          simp only [z1, z2] at h
          cases h
          exact .cons (B X G body m z1) (dCs_ok B G z2)
    · cases h
theorem dS_ok (D : DenOk cfg ca lvl d) (B : BlOk cfg ca lvl bl) (BH : ∀ ca', BlOk cfg.hotten ca' lvl bh) (G : GoodS cfg ca lvl X) {s : Stmt} {m : SM} (h : dS cfg d bl bh X.env.scope s = some m) : JS X ca m s := by
  have nd : X.N.Nodup := by rw [G.hN]; exact G.nd
  cases s with
  | Assign ts a pos =>
    unfold dS at h
    dsimp only at h
    split at h
    · rename_i x px
      split at h
      · rename_i elt gs scope vpos
        cases z1 : locOf cfg allFn X.env.scope x with
        | none => simp only [z1] at h; cases h
        | some i =>
          cases z2 : dLc cfg d X.env.scope elt gs scope with
          | none => simp only [z1, z2] at h; cases h
          | some n =>
            simp only [z1, z2] at h
            obtain ⟨h1, h2, h3⟩ := locOf_inv G.toGood G.fo z1
            obtain ⟨k1, k2⟩ := dLc_ok D G.toGood z2
            cases zs : swB X.env.scope scope x px vpos with
            | true =>
              simp only [zs, Bool.true_or, if_true] at h
              cases h
              exact k2 i x px pos vpos G.kind h1 zs
            | false =>
              have hn : noSw X.env.scope scope x px vpos = true := by unfold noSw; rw [zs]; rfl
              simp only [zs, hn, Bool.or_true, if_true] at h
              cases h
              refine js_setW nd h1 h2 (G.fn x) (fun l => ?_) (k1 vpos)
              have hb : X.env.blockKind = .function := by unfold Env.blockKind; rw [G.kind]; rfl
              unfold swapsWith
              simp only [hb, Expr.pos]
              unfold swB at zs
              have kf : X.env.kindOf x = X.env.scope.names.lookup x := rfl
              rw [kf]
              have e1 : (X.env.scope.names.lookup x == some NameKind.local) = decide (X.env.scope.names.lookup x = some .local) := by
                rw [Bool.eq_iff_iff]; simp
              show pure _ = pure false
              rw [e1]
              congr 1
      · split at h
        · cases h
        · rename_i hc
          cases z1 : locOf cfg allFn X.env.scope x with
          | none => simp only [z1] at h; cases h
          | some i =>
            cases z2 : d.E X.env.scope a with
            | none => simp only [z1, z2] at h; cases h
            | some n =>
              simp only [z1, z2] at h
              cases h
              obtain ⟨h1, h2, h3⟩ := locOf_inv G.toGood G.fo z1
              exact js_set nd h1 h2 (G.fn x) (by simpa using hc) ((D X G.toGood).1 a n z2)
    · rename_i x px k ps
      split at h
      · cases h
      · rename_i hc
        simp only [Bool.or_eq_true, not_or, Bool.not_eq_true] at hc
        cases z1 : slotOf cfg X.env.scope x with
        | none => simp only [z1] at h; cases h
        | some i =>
          cases z2 : dO cfg d X.env.scope true k with
          | none => simp only [z1, z2] at h; cases h
          | some n =>
            cases z3 : d.E X.env.scope a with
            | none => simp only [z1, z2, z3] at h; cases h
            | some l =>
              simp only [z1, z2, z3] at h
              cases h
              obtain ⟨h1, h2, h3, h4⟩ := slotOf_inv G.toGood z1
              exact js_setIx h1 h2 h3 h4 hc.1 hc.2 (dO_ok D G.toGood z2) ((D X G.toGood).1 a l z3)
    · exact dTupA_ok D G h
    · rename_i x px f ps
      split at h
      · cases h
      · rename_i hc
        cases z1 : slotOf cfg X.env.scope x with
        | none => simp only [z1] at h; cases h
        | some i =>
          cases z3 : d.E X.env.scope a with
          | none => simp only [z1, z3] at h; cases h
          | some l =>
            simp only [z1, z3] at h
            cases h
            obtain ⟨h1, h2, h3, h4⟩ := slotOf_inv G.toGood z1
            exact js_sto G.fq h1 h2 h3 h4 (by simpa using hc) ((D X G.toGood).1 a l z3)
    · cases h
  | Return r pos =>
    cases r with
    | none => cases h; exact js_retN
    | some a =>
      unfold dS at h
      dsimp only at h
      cases z : d.E X.env.scope a with
      | none => rw [z] at h; cases h
      | some n => rw [z] at h; cases h; exact js_ret ((D X G.toGood).1 a n z)
  | If t a b pos =>
    unfold dS at h
    dsimp only at h
    cases z1 : d.T X.env.scope t with
    | none => simp only [z1] at h; cases h
    | some n =>
      cases z2 : bl X.env.scope a with
      | none => simp only [z1, z2] at h; cases h
      | some k =>
        cases z3 : bl X.env.scope b with
        | none => simp only [z1, z2, z3] at h; cases h
        | some l => simp only [z1, z2, z3] at h; cases h; exact js_if ((D X G.toGood).2 t n z1) (B X G a k z2) (B X G b l z3)
  | Expr a pos =>
    unfold dS at h
    dsimp only at h
    split at h
    · cases h
    · rename_i hc
      cases z : d.E X.env.scope a with
      | none => rw [z] at h; cases h
      | some n => rw [z] at h; cases h; exact js_expr (by simpa using hc) ((D X G.toGood).1 a n z)
  | Pass pos => cases h; exact js_pass
  | Break pos => cases h; exact js_break
  | Continue pos => cases h; exact js_continue
  | For tg iter body orelse pos =>
    unfold dS at h
    dsimp only at h
    split at h
    · cases h
    · rename_i ho
      simp only [Bool.or_eq_true, not_or, Bool.not_eq_true] at ho
      have he : orelse = [] := by simpa using ho.1
      have hh : cfg.hot = false := ho.2
      subst he
      cases z1 : dG cfg allFn X.env.scope tg with
      | none => simp only [z1] at h; cases h
      | some t =>
        cases z2 : dI cfg d X.env.scope tg iter with
        | none => simp only [z1, z2] at h; cases h
        | some mi =>
          cases z3 : bl X.env.scope body with
          | none => simp only [z1, z2, z3] at h; cases h
          | some mb =>
            simp only [z1, z2, z3] at h
            cases h
            obtain ⟨ji, hset⟩ := dI_ok D G.toGood z2
            exact js_for (G.passes hh) (G.calm hh) hset ji (dG_ok G.toGood G.fo z1) (B X G body mb z3)
  | Match a cs pos =>
    unfold dS at h
    dsimp only at h
    cases z1 : d.E X.env.scope a with
    | none => simp only [z1] at h; cases h
    | some n =>
      cases z2 : dCs bl X.env.scope cs with
      | none => simp only [z1, z2] at h; cases h
      | some ms => simp only [z1, z2] at h; cases h; exact js_match G.units ((D X G.toGood).1 a n z1) (dCs_ok B G z2)
  | AugAssign t op a pos =>
    unfold dS at h
    dsimp only at h
    split at h
    · rename_i x px
      split at h
      · cases h
      · rename_i hh
        have hh : cfg.hot = false := by simpa using hh
        cases z1 : locOf cfg allFn X.env.scope x with
        | none => simp only [z1] at h; cases h
        | some i =>
          cases z2 : dO cfg d X.env.scope true a with
          | none => simp only [z1, z2] at h; cases h
          | some n =>
            simp only [z1, z2] at h
            cases h
            obtain ⟨h1, h2, h3⟩ := locOf_inv G.toGood G.fo z1
            exact js_aug G.fq (meT_all G.toGood hh) (G.room hh) nd h1 h2 (G.fn x) (dO_ok D G.toGood z2)
    · cases h
  | Raise e c pos =>
    cases e with
    | none => cases h
    | some e =>
      cases c with
      | none => exact dRaise_ok G h
      | some c => cases h
  | Try body hs orelse fin pos =>
    unfold dS at h
    dsimp only at h
    split at h
    · cases h
    · rename_i ho
      simp only [Bool.or_eq_true, not_or, Bool.not_eq_true] at ho
      have he : orelse = [] := by simpa using ho.1
      have hf : fin = [] := by simpa using ho.2
      subst he; subst hf
      exact dTry_ok B BH G h
  | _ => cases h
theorem dS_ok' (D : DenOk cfg ca lvl d) (B : BlOk cfg ca lvl bl) (BH : ∀ ca', BlOk cfg.hotten ca' lvl bh) (G : GoodS cfg ca lvl X) {s : Stmt} : JS X ca ((dS cfg d bl bh X.env.scope s).getD badS) s := by
  cases z : dS cfg d bl bh X.env.scope s with
  | none => exact js_bad
  | some m => exact dS_ok D B BH G z
theorem dBl_ok (D : DenOk cfg ca lvl d) (B : BlOk cfg ca lvl bl) (BH : ∀ ca', BlOk cfg.hotten ca' lvl bh) (G : GoodS cfg ca lvl X) : ∀ {ss : List Stmt}, JSs X ca (dBl cfg d bl bh X.env.scope ss) ss
  | [] => jss_nil
  | [s] => jss_one (dS_ok' D B BH G)
  | s :: s' :: ss => jss_cons (dS_ok' D B BH G) (dBl_ok D B BH G)
theorem denB_ok (D : DenOk cfg ca lvl d) (BH : ∀ ca', BlOk cfg.hotten ca' lvl bh) : ∀ n, BlOk cfg ca lvl (denB cfg d bh n)
  | 0 => fun _ _ _ _ h => by cases h
  | n + 1 => fun X G ss m h => by cases h; exact dBl_ok D (denB_ok D BH n) BH G
end
/-- except suites -/
def denH (cfg : Cfg) (sc : Scope) (ss : List Stmt) : Option SM := denB cfg.hotten (den cfg.hotten 40) (fun _ _ => none) 40 sc ss
/-- the body of a def -/
def denF (cfg : Cfg) (sc : Scope) (body : List Stmt) : Option SM := denB cfg (den cfg 40) (denH cfg) 40 sc body
theorem denF_ok {cfg : Cfg} {ca : CA} {lvl : Nat} : BlOk cfg ca lvl (denF cfg) := denB_ok (den_ok 40) (fun ca' => denB_ok (cfg := cfg.hotten) (den_ok 40) (fun _ _ _ _ _ h => by cases h) 40) 40
end QB

namespace QB
open PySem L2
structure BsOk (K : PySem.W.Frag) (mg : Str → Option Value) (ca : CA) (bs : Bs) : Prop where
  consts : ∀ p ∈ bs.consts, ∃ u v, mg p.1 = some u ∧ RelV v u ∧ KRep K ca p.2 v
  frees : ∀ x ∈ bs.frees, mg x = none
  fq : FqOk K ca bs.fq
/-! ### what the head leaves -/
mutual
/-- a value of the written part is p -/
def pvB (K : PySem.W.Frag) : PV → Value → Bool
  | .non, .none => true
  | .bl b, .bool c => b == c
  | .int i, .int j _ => decide (i = j)
  | .str x, .str y _ => decide (x = y)
  | .tup xs, .ref a => (match K.lookup a with
    | some ⟨.type c, _, .seq its _, _⟩ => decide (c = "tuple") && (decide (its.size ≤ sizeLine) && pvsB K xs its.toList)
    | _ => false)
  | .cls c, .ref a => decide (a = He.ga K c)
  | _, _ => false
def pvsB (K : PySem.W.Frag) : List PV → List Value → Bool
  | [], us => us.isEmpty
  | p :: ps, us => match us with
    | u :: us => pvB K p u && pvsB K ps us
    | [] => false
end
section
variable {K : PySem.W.Frag} {ca : CA}
mutual
theorem pvB_ok (hca : ∀ c, ca c = He.ga K c) : ∀ {p : PV} {u : Value}, pvB K p u = true → ∃ v, RelV v u ∧ KRep K ca p v
  | .non, u, h => by
    cases u <;> first | (cases h; done) | exact ⟨.non, rfl, fun _ => rfl⟩
  | .bl b, u, h => by
    cases u <;> first | (cases h; done) | skip
    case bool c =>
      have e : b = c := by
        have h1 : (b == c) = true := h
        exact eq_of_beq h1
      subst e
      exact ⟨.bl b, rfl, fun _ => rfl⟩
  | .int i, u, h => by
    cases u <;> first | (cases h; done) | skip
    case int j t =>
      have e : i = j := of_decide_eq_true h
      subst e
      exact ⟨.int i, ⟨t, rfl⟩, fun _ => rfl⟩
  | .str x, u, h => by
    cases u <;> first | (cases h; done) | skip
    case str y t =>
      have e : x = y := of_decide_eq_true h
      subst e
      exact ⟨.str x, ⟨t, rfl⟩, fun _ => rfl⟩
  | .tup xs, u, h => by
    cases u <;> first | (cases h; done) | skip
    case ref a =>
      unfold pvB at h
      split at h
      · rename_i c d its n sl hk
        obtain ⟨h1, h2⟩ := and2 h
        obtain ⟨h3, h4⟩ := and2 h2
        obtain ⟨vs, r1, r2⟩ := pvsB_ok hca h4
        exact ⟨.ref a, rfl, fun G => ⟨a, vs, rfl, .inr ⟨_, its, n, hk, congrArg Value.type (of_decide_eq_true h1), rfl, of_decide_eq_true h3, r1⟩, r2 G⟩⟩
      · cases h
  | .cls c, u, h => by
    cases u <;> first | (cases h; done) | skip
    case ref a =>
      have e : a = He.ga K c := of_decide_eq_true h
      subst e
      exact ⟨.ref _, rfl, fun G => by show V.ref _ = V.ref _; rw [hca]⟩
  | .lst _, u, h => by cases u <;> cases h
  | .rdl _, u, h => by cases u <;> cases h
  | .ins _ _ _, u, h => by cases u <;> cases h
  | .dct _ _, u, h => by cases u <;> cases h
theorem pvsB_ok (hca : ∀ c, ca c = He.ga K c) : ∀ {ps : List PV} {us : List Value}, pvsB K ps us = true → ∃ vs, Vals vs us ∧ ∀ G : Hp, Reps K ca G ps vs
  | [], us, h => by
    cases us with
    | nil => exact ⟨[], .nil, fun _ => rfl⟩
    | cons u us => cases h
  | p :: ps, us, h => by
    cases us with
    | nil => cases h
    | cons u us =>
      obtain ⟨h1, h2⟩ := and2 (show (pvB K p u && pvsB K ps us) = true from h)
      obtain ⟨v, r1, k1⟩ := pvB_ok hca h1
      obtain ⟨vs, r2, k2⟩ := pvsB_ok hca h2
      exact ⟨v :: vs, .cons r1 r2, fun G => ⟨v, vs, rfl, k1 G, k2 G⟩⟩
end
end
/-- the module's base, looked at -/
def bsB (bs : Bs) (K : PySem.W.Frag) : Bool := (bs.consts.all fun p => match PySem.W.nsIn K mainGlobals p.1 with
  | some (some u) => pvB K p.2 u
  | _ => false) && ((bs.frees.all fun x => eqB (PySem.W.nsIn K mainGlobals x) (some none)) && bs.fq.all fun f => f.ok K)
abbrev caK (K : PySem.W.Frag) : CA := ⟨He.ga K, fun _ => none⟩
/-- a def of the text: a global, a method, a class's __init__, a classmethod, a property -/
inductive DK where
  | glo | me (c : Str) | mk (c : Str) | cm (c : Str) | pr (c : Str)
structure DefQ where
  name : Str
  params : Arguments
  body : List Stmt
  scope : Scope
  kind : DK := .glo
  dfl : List PV := []
  kwd : List (Str × He.Dv) := []
/-- a property's def -/
def prA (K : PySem.W.Frag) (C : Addr) (f : Str) : Addr := match PySem.W.recIn K (He.ma K C f) "property" with
  | some (.ref g :: _) => g
  | _ => 0
def DefQ.at_ (d : DefQ) (K : PySem.W.Frag) : Addr := match d.kind with
  | .glo => He.ga K d.name
  | .me c => He.ma K (He.ga K c) d.name
  | .mk c => He.ma K (He.ga K c) "__init__"
  | .cm c => He5.wf K (He.ga K c) "classmethod" d.name
  | .pr c => prA K (He.ga K c) d.name
def DefQ.qual (d : DefQ) : Str := match d.kind with
  | .glo => d.name
  | .me c => c ++ ("." : Str) ++ d.name
  | .mk c => c ++ ("." : Str) ++ d.name
  | .cm c => c ++ ("." : Str) ++ d.name
  | .pr c => c ++ ("." : Str) ++ d.name
/-- the i-th default of the def at f, if it is an object -/
def dflO (K : PySem.W.Frag) (f : Addr) (i : Nat) : Addr := match K.lookup f with
  | some ⟨_, _, .func fd, _⟩ => (match fd.defaults with
    | .ref T => (match K.lookup T with
      | some ⟨_, _, .seq its _, _⟩ => (match its.toList[i]? with
        | some (.ref a) => a
        | _ => 0)
      | _ => 0)
    | _ => 0)
  | _ => 0
def dvOf (at_ : PySem.W.Frag → Addr) (i : Nat) : PV → He.Dv
  | .non => .non
  | .bl b => .bl b
  | .int i => .int i
  | .str x => .str x
  | _ => .adr fun K => dflO K (at_ K) i
def dvsOf (at_ : PySem.W.Frag → Addr) : Nat → List PV → List He.Dv
  | _, [] => []
  | i, p :: ps => dvOf at_ i p :: dvsOf at_ (i + 1) ps
def dvB (K : PySem.W.Frag) (at_ : PySem.W.Frag → Addr) (i : Nat) : PV → Bool
  | .non => true
  | .bl _ => true
  | .int _ => true
  | .str _ => true
  | .tup xs => pvB K (.tup xs) (.ref (dflO K (at_ K) i))
  | _ => false
def dvsB (K : PySem.W.Frag) (at_ : PySem.W.Frag → Addr) : Nat → List PV → Bool
  | _, [] => true
  | i, p :: ps => dvB K at_ i p && dvsB K at_ (i + 1) ps
def DefQ.d (q : DefQ) : He5.DefA := ⟨q.at_, q.name, q.qual, q.params, q.body, q.scope, dvsOf q.at_ 0 q.dfl, q.kwd⟩
/-- where it is found -/
def DefQ.here (K : PySem.W.Frag) (q : DefQ) : Bool := dvsB K q.at_ 0 q.dfl && match q.kind with
  | .glo => He.eqO (PySem.W.nsIn K mainGlobals q.name) (some (some (.ref (He.ga K q.name))))
  | .me c => insB K (He.ga K c) && (He.eqO (PySem.W.findIn K (.ref (He.ga K c)) q.name) (some (some (.ref (He.ma K (He.ga K c) q.name)))) && PySem.W.isFn K (.ref (He.ma K (He.ga K c) q.name)))
  | .mk c => PySem.W.makesIn K (He.ga K c) && (He.eqO (PySem.W.findIn K (.ref (He.ga K c)) "__init__") (some (some (.ref (He.ma K (He.ga K c) "__init__")))) && (PySem.W.isFn K (.ref (He.ma K (He.ga K c) "__init__")) && PySem.W.keepIn K (.ref (He.ga K c))))
  | .cm c => PySem.W.readsIn K (He.ga K c) (.type "type") && (He.eqO (PySem.W.specialIn K (.ref (He.ga K c)) "__getattribute__") (some (some (.builtin "type.__getattribute__"))) && (He5.wrapB K (He.ga K c) "classmethod" "classmethod.__get__" q.name && PySem.W.fnIn K (He5.wf K (He.ga K c) "classmethod" q.name)))
  | .pr c => insB K (He.ga K c) && (He.eqO (PySem.W.findIn K (.ref (He.ga K c)) q.name) (some (some (.ref (He.ma K (He.ga K c) q.name)))) && (He.eqO (PySem.W.specialIn K (.ref (He.ma K (He.ga K c) q.name)) "__get__") (some (some (.builtin "property.__get__"))) &&
    (eqB (PySem.W.takesIn K (.ref (He.ma K (He.ga K c) q.name))) (some true) && (match PySem.W.recIn K (He.ma K (He.ga K c) q.name) "property" with
      | some (.ref _ :: _) => true
      | _ => false))))
abbrev AlQ : Type := Bool × List He.FnW
def obsQ (bs : Bs) (fn : List DefQ) (K : PySem.W.Frag) : AlQ := (bsB bs K && (fn.all fun d => d.d.ok K && d.here K), fn.map fun d => He5.fnA K (d.at_ K))
def valQ (fn : List DefQ) : AlQ := (true, fn.map fun d => d.d.val)
def SaysQ (bs : Bs) (fn : List DefQ) (K : PySem.W.Frag) : Prop := obsQ bs fn K = valQ fn
def obsQG (n : Nat) (bs : Bs) (fn : List DefQ) (g : Addr → Option Obj) : AlQ := obsQ bs fn (He.frG g (He5.asA g n))
def hookQ (n : Nat) (bs : Bs) (fn : List DefQ) : PySem.W.Hook where
  α := AlQ
  obs := fun s => obsQG n bs fn s.heap.get?
  val := fun _ => valQ fn
  says := fun _ h => ∃ K : PySem.W.Frag, K.In h ∧ SaysQ bs fn K
  of := fun _ _ e => ⟨_, He.frG_in, e⟩
  keeps := fun _ _ _ ⟨K, hK, c⟩ k => ⟨K, PySem.W.Frag.In.keeps hK k, c⟩
theorem obsQG_eq {n : Nat} {bs : Bs} {fn : List DefQ} {g : Addr → Option Obj} {s : Shared} (h : ∀ a, g a = s.heap.get? a) : obsQG n bs fn g = (hookQ n bs fn).obs s := by
  have e : g = s.heap.get? := funext h
  rw [e] <;> rfl
section
variable {bs : Bs} {fn : List DefQ} {K : PySem.W.Frag} {h : Heap} {mg : Str → Option Value}
theorem SaysQ.base (c : SaysQ bs fn K) (X : K.In h) (G : h.Ns mainGlobals mg) : BsOk K mg (caK K) bs := by
  obtain ⟨c1, _⟩ := and2 (show (bsB bs K && (fn.all fun d => d.d.ok K && d.here K)) = true from congrArg (fun z : AlQ => z.1) c)
  obtain ⟨k1, k⟩ := and2 c1
  obtain ⟨k2, k3⟩ := and2 k
  refine ⟨fun p hp => ?_, fun x hx => ?_, ⟨fun f hf => List.all_eq_true.mp k3 f hf, fun _ => rfl⟩⟩
  · have q := List.all_eq_true.mp k1 p hp
    cases e : PySem.W.nsIn K mainGlobals p.1 with
    | none => rw [e] at q; cases q
    | some o =>
      cases o with
      | none => rw [e] at q; cases q
      | some u =>
        rw [e] at q
        obtain ⟨v, r1, r2⟩ := pvB_ok (ca := caK K) (fun _ => rfl) q
        exact ⟨u, v, PySem.W.mg_of X G e, r1, r2⟩
  · exact PySem.W.mg_none_of X G (eqB_ok (List.all_eq_true.mp k2 x hx))
/-- a def as the head leaves it -/
def DefQ.Is (K : PySem.W.Frag) (d : DefQ) (f : Addr) (fd : FuncData) : Prop := FunD K d.name d.qual d.params d.body d.scope (d.d.dvs K) (d.d.kws K) f fd
theorem SaysQ.def_ (c : SaysQ bs fn K) (i : Nat) {d : DefQ} (h : fn[i]? = some d) : (∃ fd, d.Is K (d.at_ K) fd) ∧ d.here K = true := by
  obtain ⟨_, c2⟩ := and2 (show (bsB bs K && (fn.all fun d => d.d.ok K && d.here K)) = true from congrArg (fun z : AlQ => z.1) c)
  have e : fn.map (fun d => He5.fnA K (d.at_ K)) = fn.map fun d => d.d.val := congrArg (fun z : AlQ => z.2) c
  have e2 : (fn.map fun d => He5.fnA K (d.at_ K))[i]? = (fn.map fun d => d.d.val)[i]? := by rw [e]
  rw [List.getElem?_map, List.getElem?_map, h] at e2
  obtain ⟨k1, k2⟩ := and2 (List.all_eq_true.mp c2 d (List.mem_of_getElem? h))
  exact ⟨He5.DefA.funD (d := d.d) (Option.some.inj e2) k1, k2⟩
/-- a global def -/
theorem here_glo (X : K.In h) (G : h.Ns mainGlobals mg) {d : DefQ} (hc : d.kind = .glo) (k : d.here K = true) : mg d.name = some (.ref (d.at_ K)) := by
  obtain ⟨_, k⟩ := and2 k
  rw [hc] at k
  unfold DefQ.at_
  rw [hc]
  exact PySem.W.mg_of X G (He.eqO_ok k)
theorem here_me {d : DefQ} {c : Str} {fd : FuncData} (hc : d.kind = .me c) (k : d.here K = true) (F : d.Is K (d.at_ K) fd) : Cls K (He.ga K c) ∧ Meth K (He.ga K c) d.name (d.at_ K) := by
  have kp := F.kp
  obtain ⟨_, k⟩ := and2 k
  rw [hc] at k
  unfold DefQ.at_ at kp ⊢
  rw [hc] at kp ⊢
  obtain ⟨k1, k⟩ := and2 k
  obtain ⟨k2, k3⟩ := and2 k
  exact ⟨(insB_ok k1).1, He.eqO_ok k2, k3, kp⟩
theorem here_mk {d : DefQ} {c : Str} (hc : d.kind = .mk c) (k : d.here K = true) : Mk K (He.ga K c) (d.at_ K) := by
  obtain ⟨_, k⟩ := and2 k
  rw [hc] at k
  unfold DefQ.at_
  rw [hc]
  obtain ⟨k1, k⟩ := and2 k
  obtain ⟨k2, k⟩ := and2 k
  obtain ⟨k3, k4⟩ := and2 k
  exact ⟨k1, He.eqO_ok k2, k3, k4⟩
theorem here_cm {d : DefQ} {c : Str} (hc : d.kind = .cm c) (k : d.here K = true) : ClX.CRead K (He.ga K c) (.type "type") ∧ ClX.CMet K (He.ga K c) (.type "type") d.name (He.ma K (He.ga K c) d.name) (d.at_ K) := by
  obtain ⟨_, k⟩ := and2 k
  rw [hc] at k
  unfold DefQ.at_
  rw [hc]
  obtain ⟨k1, k⟩ := and2 k
  obtain ⟨k2, k⟩ := and2 k
  obtain ⟨k3, k4⟩ := and2 k
  exact ⟨⟨k1, He.eqO_ok k2⟩, He5.cmet_of k3 k4⟩
theorem here_pr {d : DefQ} {c : Str} (hc : d.kind = .pr c) (k : d.here K = true) : Cls K (He.ga K c) ∧ PropOf K (He.ga K c) d.name (He.ma K (He.ga K c) d.name) (d.at_ K) := by
  obtain ⟨_, k⟩ := and2 k
  rw [hc] at k
  unfold DefQ.at_
  rw [hc]
  obtain ⟨k1, k⟩ := and2 k
  obtain ⟨k2, k⟩ := and2 k
  obtain ⟨k3, k⟩ := and2 k
  obtain ⟨k4, k5⟩ := and2 k
  refine ⟨(insB_ok k1).1, He.eqO_ok k2, He.eqO_ok k3, eqB_ok k4, ?_⟩
  show ∃ rest, _ = some (Value.ref (prA K (He.ga K c) d.name) :: rest)
  unfold prA
  split at k5
  · rename_i g r e
    exact ⟨r, by rw [e]⟩
  · cases k5
theorem dvs_ok (at_ : PySem.W.Frag → Addr) : ∀ {i : Nat} {ps : List PV}, dvsB K at_ i ps = true → Paired (fun p v => KRep K (caK K) p v) ps ((dvsOf at_ i ps).map (He.Dv.v K))
  | _, [], _ => .nil
  | i, p :: ps, h => by
    obtain ⟨h1, h2⟩ := and2 (show (dvB K at_ i p && dvsB K at_ (i + 1) ps) = true from h)
    refine .cons ?_ (dvs_ok at_ h2)
    cases p <;> first | (cases h1; done) | exact fun _ => rfl | skip
    case tup xs =>
      obtain ⟨v, r, k⟩ := pvB_ok (ca := caK K) (fun _ => rfl) (show pvB K (.tup xs) (.ref (dflO K (at_ K) i)) = true from h1)
      have : v = .ref (dflO K (at_ K) i) := by
        cases v <;> first | (obtain ⟨_, z⟩ := r; cases z; done) | (cases r; done) | (cases r; rfl)
      subst this
      exact k
end
/-! ### a module's defs, one behind another -/
/-- a def as the callers know it -/
def FnKn (rp : Bool) (P : Program) (w : World) (K : PySem.W.Frag) (mg : Str → Option Value) (base : Heap) (ca : CA) (lvl : Nat) (E : FnE) : Prop := ∃ f fd k, k ≤ lvl ∧ mg E.name = some (.ref f) ∧ PySem.W.keepIn K (.ref f) = true ∧
    FnR rp P w K mg base k f fd E.ps (spF K ca E.ps.length E.sem) ∧ ∀ s ∈ E.shapes, ShapeOk K ca fd E.ps s
def MeKn (P : Program) (w : World) (K : PySem.W.Frag) (mg : Str → Option Value) (base : Heap) (ca : CA) (lvl : Nat) (M : MethE) : Prop := ∃ f fd k, k + 2 ≤ lvl ∧ Cls K (ca M.cls) ∧ Meth K (ca M.cls) M.E.name f ∧
    FnR false P w K mg base k f fd M.E.ps (spF K ca M.E.ps.length M.E.sem) ∧ ∀ s ∈ M.E.shapes, ShapeOk K ca fd M.E.ps s
def MkKn (P : Program) (w : World) (K : PySem.W.Frag) (mg : Str → Option Value) (base : Heap) (ca : CA) (lvl : Nat) (M : MethE) : Prop := ∃ f fd k, k + 1 ≤ lvl ∧ Mk K (ca M.cls) f ∧
    FnR false P w K mg base k f fd M.E.ps (spF K ca M.E.ps.length M.E.sem) ∧ ∀ s ∈ M.E.shapes, ShapeOk K ca fd M.E.ps s
def CmKn (P : Program) (w : World) (K : PySem.W.Frag) (mg : Str → Option Value) (base : Heap) (ca : CA) (lvl : Nat) (M : MethE) : Prop := ∃ q f fd k, k + 1 ≤ lvl ∧ ClX.CRead K (ca M.cls) (.type "type") ∧ ClX.CMet K (ca M.cls) (.type "type") M.E.name q f ∧
    FnR false P w K mg base k f fd M.E.ps (spF K ca M.E.ps.length M.E.sem) ∧ ∀ s ∈ M.E.shapes, ShapeOk K ca fd M.E.ps s
def PrKn (P : Program) (w : World) (K : PySem.W.Frag) (mg : Str → Option Value) (base : Heap) (ca : CA) (lvl : Nat) (M : MethE) : Prop := ∃ f fd k p, k + 1 ≤ lvl ∧ Cls K (ca M.cls) ∧ PropOf K (ca M.cls) M.E.name p f ∧
    FnR false P w K mg base k f fd M.E.ps (spF K ca M.E.ps.length M.E.sem) ∧ M.E.ps.length = 1 ∧ ∀ (s : Shared) (u : Value), BindsTo s fd ⟨[u], []⟩ (M.E.ps.zip [u])
structure ModOk (P : Program) (w : World) (K : PySem.W.Frag) (mg : Str → Option Value) (base : Heap) (ca : CA) (lvl : Nat) (cfg : Cfg) : Prop where
  nd : cfg.N.Nodup
  fns : ∀ E ∈ cfg.fns, FnKn cfg.rp P w K mg base ca lvl E
  bs : BsOk K mg ca cfg.bs
  cold : cfg.hot = false
  nox : ∀ a, ca.xp a = none
  me : ∀ e ∈ cfg.cl.me, MeKn P w K mg base ca lvl e
  mks : ∀ e ∈ cfg.cl.mks, MkKn P w K mg base ca lvl e
  cm : ∀ e ∈ cfg.cl.cm, CmKn P w K mg base ca lvl e
  pr : ∀ e ∈ cfg.cl.pr, PrKn P w K mg base ca lvl e
section
variable {rp : Bool} {P : Program} {w : World} {K : PySem.W.Frag} {mg : Str → Option Value} {base : Heap} {ca : CA} {lvl : Nat} {cfg : Cfg} {x qual : Str} {params : Arguments} {body : List Stmt} {scope : Scope} {dvs : List V} {kws : List (Str × V)} {f : Addr} {fd : FuncData} {ps : List Str} {m : SM}
theorem FnKn.mono {E : FnE} {l l' : Nat} (h : FnKn rp P w K mg base ca l E) (hl : l ≤ l') : FnKn rp P w K mg base ca l' E := by
  obtain ⟨f, fd, k, h1, h2⟩ := h
  exact ⟨f, fd, k, Nat.le_trans h1 hl, h2⟩
theorem MeKn.mono {M : MethE} {l l' : Nat} (h : MeKn P w K mg base ca l M) (hl : l ≤ l') : MeKn P w K mg base ca l' M := by
  obtain ⟨f, fd, k, h1, h2⟩ := h
  exact ⟨f, fd, k, Nat.le_trans h1 hl, h2⟩
theorem MkKn.mono {M : MethE} {l l' : Nat} (h : MkKn P w K mg base ca l M) (hl : l ≤ l') : MkKn P w K mg base ca l' M := by
  obtain ⟨f, fd, k, h1, h2⟩ := h
  exact ⟨f, fd, k, Nat.le_trans h1 hl, h2⟩
theorem CmKn.mono {M : MethE} {l l' : Nat} (h : CmKn P w K mg base ca l M) (hl : l ≤ l') : CmKn P w K mg base ca l' M := by
  obtain ⟨q, f, fd, k, h1, h2⟩ := h
  exact ⟨q, f, fd, k, Nat.le_trans h1 hl, h2⟩
theorem PrKn.mono {M : MethE} {l l' : Nat} (h : PrKn P w K mg base ca l M) (hl : l ≤ l') : PrKn P w K mg base ca l' M := by
  obtain ⟨f, fd, k, p, h1, h2⟩ := h
  exact ⟨f, fd, k, p, Nat.le_trans h1 hl, h2⟩
theorem FnR.weak {k : Nat} {sp : Sp} (F : FnR false P w K mg base k f fd ps sp) : FnR rp P w K mg base k f fd ps sp := ⟨F.len, fun A o s H ar us vs Q E _ => F.run A o s H ar us vs Q E (fun z => by cases z)⟩
theorem FnKn.weak {E : FnE} {l l' : Nat} (h : FnKn false P w K mg base ca l E) (hl : l ≤ l') : FnKn rp P w K mg base ca l' E := by
  obtain ⟨f, fd, k, h1, h2, h3, h4, h5⟩ := h
  exact ⟨f, fd, k, Nat.le_trans h1 hl, h2, h3, h4.weak, h5⟩
theorem def_ok (F : FunD K x qual params body scope dvs kws f fd) (S : FnScope cfg.N ps scope) (M : ModOk P w K mg base ca lvl cfg) (h : denF cfg scope body = some m) :
    FnR cfg.rp P w K mg base (lvl + 1) f fd ps (spF K ca ps.length (bodyF cfg.N.length m)) := by
  refine fn_ok F S fun cdv A outer s H E hgd hr => ?_
  have G : GoodS cfg ca lvl (cxOf (L2.CX P w) P w K mg base cfg.N qual scope f cdv A outer s H E) :=
    ⟨⟨rfl, M.nd, (by have := hr.un; show (A.deeper (PyProof.Rows.envOfC qual scope s.heap.objs.size f cdv)).units + 65 < cLine; omega), fun _ => rfl, fun _ => hr, fun _ => M.fns, hgd, M.bs.consts, M.bs.frees, M.bs.fq, (fun a cls d h => by rw [M.nox] at h; cases h), fun _ => M.nox, fun _ => M.me, fun _ e he _ => M.mks e he, fun _ => M.cm, fun _ => M.pr⟩, fun _ => rfl, fun _ => passes_of rfl, S.kind, rfl, rfl⟩
  exact denF_ok _ G body m h
/-- a def that calls itself: the promise of no meaning -/
theorem FnR.none {k : Nat} {sp : Sp} (h : ∀ vs H Q E, ¬ sp vs H Q E) : FnR rp P w K mg base k f fd ps sp := ⟨fun _ _ _ _ z => (h _ _ _ _ z).elim, fun A o s H ar us vs Q E _ _ _ _ _ z => (h _ _ _ _ z).elim⟩
def badF : FSem := fun _ => .bad
theorem badF_sp {n : Nat} (vs : List V) (H : Hp) (Q : VK) (E : XK) : ¬ spF K ca n badF vs H Q E := fun ⟨_, _, _, _, z⟩ => z
/-- the shapes of a call -/
theorem shape_n {n : Nat} {ks : List Str} {src : List Src} (F : FunD K x qual params body scope [] kws f fd)
    (h : ∀ (kV doc pm : Value) (an : Option Addr) (cdv ct : Value) (us ws : List Value), us.length = n → ws.length = ks.length → bindArgs (PySem.W.fnOf x qual params body scope .none kV doc pm an cdv ct) ⟨us, ks.zip ws⟩ = pure (ps.zip (pick src us ws []))) :
    ShapeOk K ca fd ps ⟨n, ks, src, []⟩ := by
  obtain ⟨oc, od, dV, kV, doc, pm, an, cdv, ct, osl, rfl, lk, hcd, hD, hK⟩ := F.ex
  rcases hD with ⟨_, rfl⟩ | ⟨e, _⟩
  · exact ⟨[], [], .nil, ⟨fun s us ws _ h1 h2 => .of_eq (h kV doc pm an cdv ct us ws h1 h2), fun r1 r2 => pick_paired r1 r2 .nil src⟩⟩
  · exact absurd rfl e
/-- .. with defaults -/
theorem shape_d {n nd : Nat} {ks : List Str} {src : List Src} {ds : List PV} (F : FunD K x qual params body scope dvs kws f fd) (hd : Paired (fun p v => KRep K ca p v) ds dvs) (hnd : dvs.length = nd + 1)
    (h : ∀ (T : Addr) (kV doc pm : Value) (an : Option Addr) (cdv ct : Value) (us its ws : List Value), us.length = n → its.length = nd + 1 → ws.length = ks.length →
      ∃ k, bindArgs (PySem.W.fnOf x qual params body scope (.ref T) kV doc pm an cdv ct) ⟨us, ks.zip ws⟩ = seqItems? (.ref T) >>= k ∧ k (some its.toArray) = pure (ps.zip (pick src us ws its))) :
    ShapeOk K ca fd ps ⟨n, ks, src, ds⟩ := by
  obtain ⟨its, hb⟩ := FunD.kbindsD (g := fun us its ws => pick src us ws its) F n ks (fun z => by rw [z] at hnd; cases hnd) (fun r1 r2 r3 => pick_paired r1 r3 r2 src) (fun T kV doc pm an cdv ct us its ws h1 h2 h3 => h T kV doc pm an cdv ct us its ws h1 (h2.trans hnd) h3)
  exact ⟨dvs, its, hd, hb⟩
/-- the law itself: its meaning at every script -/
theorem law_sp {F : FSem} {n : Nat} (h : ∀ ns : List Int, ns.length ≤ n → ∃ e', F [.val (.rdl (ns.map .int))] = .ret (.val (.bl true)) e') (H : Hp) (a : Addr) (ns : List Int) (hl : ns.length ≤ n) (hS : SqL K H a (ns.map V.int)) :
    spF K ca 1 F [.ref a] H (fun v _ => v = .bl true) fun _ _ _ => False := by
  obtain ⟨e', he⟩ := h ns hl
  refine ⟨rfl, fun _ => False, [.val (.rdl (ns.map .int))], ⟨.cons ⟨a, _, rfl, Same.seq (fun b o q => hid_of.mpr ⟨q, fun z => z⟩) hS, intsReps ns⟩ .nil, fun s hs => ?_, fun i j o o' b q => ?_, fun b z => z.elim⟩, ?_⟩
  · rcases List.mem_cons.mp hs with rfl | hs
    · exact .inl ⟨_, rfl⟩
    · cases hs
  · cases i with
    | zero => cases q
    | succ i => simp at q
  · rw [he]
    exact fun v H' M' _ fr => fr.1
end
open PySem.Spec PyProof.Rows in
/-- the law's promise at the heap behind the top -/
theorem law_callR {rp : Bool} {P : Program} {w : World} {K : PySem.W.Frag} {mg mb : Str → Option Value} {k : Nat} {fa a : Addr} {fd : FuncData} {x : Str} {sp : Sp} {s1 : Shared} {us : List Value} {ns : List Int}
    (KX : K.In s1.heap) (g1 : s1.heap.Ns mainGlobals mg) (g2 : s1.heap.Ns builtinsNs mb) (g3 : ∀ x : Str, x ≠ "__name__" → mb x = bootBuiltins x) (g4 : s1.heap.NoLimit) (g5 : s1.gens = #[])
    (ha : s1.heap.get? a = some { cls := .type "list", data := .seq us.toArray }) (hi : IntsAre us ns) (hl : ns.length ≤ sizeLine) (hr : Room k callerA)
    (F : ∀ base : Heap, K.In base → base.Ns mainGlobals mg → FnR rp P w K mg base k fa fd [x] sp) (hbind : ∀ (s : Shared) (u : Value), BindsTo s fd ⟨[u], []⟩ [(x, u)])
    (hsp : ∀ H : Hp, Only H → SqL K H a (ns.map V.int) → sp [.ref a] H (fun v _ => v = .bl true) fun _ _ _ => False) :
    codeAny (model P w) callerA (.call (.ref fa) ⟨[.ref a], []⟩) (fun r s' => r = .ok (.ret (.bool true)) ∧ OldK s1.heap s'.heap ∧ s'.os = s1.os ∧ AllBare s'.gens) s1 := by
  have go : ∀ H : Hp, Only H → SqL K H a (ns.map V.int) → HOk P w H s1.heap → (∀ b, H b ≠ none → b = a) → (H a ≠ none → K.lookup a = none) →
      codeAny (model P w) callerA (.call (.ref fa) ⟨[.ref a], []⟩) (fun r s' => r = .ok (.ret (.bool true)) ∧ OldK s1.heap s'.heap ∧ s'.os = s1.os ∧ AllBare s'.gens) s1 := by
    intro H hO hS ok hA hK
    have atA : ∀ {b : Addr} {u : HO}, H b = some u → b = a := fun {b u} q => hA b (by rw [q]; exact fun z => by cases z)
    have noD : ∀ {b : Addr} {o : Obj} {es : Array DictEntry} {ep : Nat}, s1.heap.get? b = some o → o.data = .dict es ep → H b = none := by
      intro b o es ep h1 h2
      match q : H b with
      | none => rfl
      | some u =>
        have := atA q
        subst this
        rw [ha] at h1
        cases h1
        cases h2
    have ns' : ∀ {b : Addr} {m : Str → Option Value}, s1.heap.Ns b m → (hidT s1.heap H).Ns b m := by
      rintro b m ⟨o, es, ep, h1, h2, h3⟩
      exact ⟨o, es, ep, hidT_get h1 (noD h1 h2), h2, h3⟩
    have kb : K.In (hidT s1.heap H) := by
      intro b o h1
      refine hidT_get (KX b o h1) ?_
      match q : H b with
      | none => rfl
      | some u =>
        have := atA q
        subst this
        rw [hK (by rw [q]; exact fun z => by cases z)] at h1
        cases h1
    have md : Mod K mg (hidT s1.heap H) := by
      obtain ⟨mc, l1, l2⟩ := g4
      exact ⟨kb, ns' g1, ⟨mb, ns' g2, g3⟩, ⟨mc, ns' l1, l2⟩⟩
    have e0 : Env0 P w K mg (hidT s1.heap H) callerA [] s1 H := ⟨rfl, md, fun b o e => of_hidT e, Nat.le_of_eq (hidT_size _ _), trivial, fun b hb => (by cases hb), ok, .of_eq g5⟩
    refine codeAny_mono ((F _ kb (ns' g1)).run callerA [] s1 H ⟨[.ref a], []⟩ [.ref a] [.ref a] _ _ (fun _ => rfl) hr e0 (hbind s1 (.ref a)) (.cons rfl .nil) (hsp H hO hS)) ?_
    intro r s' h
    match r, h with
    | .error e, h =>
      obtain ⟨_, _, _, _, _, _, _, _, _, _, _, _, z⟩ := h
      exact z.elim
    | .ok .next, h => exact h.elim
    | .ok .brk, h => exact h.elim
    | .ok .cont, h => exact h.elim
    | .ok (.ret u), h =>
      obtain ⟨v, H', os, bare, un, ok', r', q⟩ := h
      cases (show v = .bl true from q)
      cases (show u = Value.bool true from r')
      refine ⟨rfl, OldK.of_keep fun b o e => ?_, os, bare⟩
      match q : H b with
      | none => exact un.keep b o e q (fun z => by cases z) (by simp)
      | some u =>
        rcases hO b with z | ⟨ob, xs, z⟩
        · rw [q] at z; cases z
        · obtain ⟨w1, _⟩ := ok b _ z
          obtain ⟨w2, _⟩ := ok' b _ (un.frzs b ob _ z)
          rw [e] at w1
          cases w1
          exact w2
  have rv := vals_ints hi
  match hk : K.lookup a with
  | some o =>
    have e := KX a o hk
    rw [ha] at e
    cases e
    exact go (fun _ => none) (fun _ => .inl rfl) (.inr ⟨_, us.toArray, _, hk, rfl, rfl, rfl, by rw [List.size_toArray, hi.length]; exact hl, by simpa using rv⟩) (fun b u z => by cases z) (fun b z => absurd rfl z) fun z => absurd rfl z
  | none =>
    generalize hob : ({ cls := .type "list", data := .seq us.toArray } : Obj) = ob at ha
    have at1 : ∀ {b : Addr}, b = a → (fun b => if b = a then some (HO.frz ob (.lst (ns.map V.int))) else none) b = some (.frz ob (.lst (ns.map V.int))) := fun z => if_pos z
    have at2 : ∀ {b : Addr}, b ≠ a → (fun b => if b = a then some (HO.frz ob (.lst (ns.map V.int))) else none) b = none := fun z => if_neg z
    refine go (fun b => if b = a then some (.frz ob (.lst (ns.map V.int))) else none) (fun b => ?_) (.inl (.inr ⟨ob, at1 rfl⟩)) (fun b u z => ?_) (fun b z => ?_) fun _ => hk
    · by_cases h : b = a
      · exact .inr ⟨_, _, at1 h⟩
      · exact .inl (at2 h)
    · by_cases h : b = a
      · cases (at1 h).symm.trans z
        subst h
        subst hob
        exact ⟨ha, by rw [List.length_map]; exact hl, us, _, rv, ha⟩
      · cases (at2 h).symm.trans z
    · by_cases h : b = a
      · exact h
      · exact absurd (at2 h) z
open PySem.Spec PyProof.Rows in
theorem walk_ofW {l : PySem.W.OpenLaw} {n k : Nat} {q : Program} {loose : List Str} {XP : (Str → Option Value) → Heap → Prop} {YP : World → Heap → Prop} {d : DefRec} {x : Str}
    (hn : l.most = some n) (hn2 : n ≤ sizeLine) (hdf : d.params.defaults = []) (hr : Room k callerA)
    (F : ∀ (w : World) (mg : Str → Option Value) (fa : Addr) (h : Heap), YP w h → h.Ns mainGlobals mg → mg d.name = some (.ref fa) →
      ∃ (K : PySem.W.Frag) (fd : FuncData) (sp : Sp), K.In h ∧ (∀ (s : Shared) (u : Value), BindsTo s fd ⟨[u], []⟩ [(x, u)]) ∧
        (∀ (H : Hp) (a : Addr) (ns : List Int), ns.length ≤ n → Only H → SqL K H a (ns.map V.int) → sp [.ref a] H (fun v _ => v = .bl true) fun _ _ _ => False) ∧
        ∀ base : Heap, K.In base → base.Ns mainGlobals mg → FnR true l.prog w K mg base k fa fd [x] sp) :
    PySem.W.WalkO q loose XP YP l.row.toRowW d [] (fun f vs => PySem.call f vs) := by
  refine Att.attach_call hn hdf fun w s₀ s₁ mg mb fa o pm cd doc a vs ns G Y ho hd hcd hmg hobj hints hlen hg => ?_
  obtain ⟨K, fd, sp, KX, hb, hsp, hF⟩ := F w mg fa _ Y G.T.g hmg
  exact law_callR KX G.T.g G.T.b G.T.builtins G.T.nolimit hg hobj hints (Nat.le_trans hlen hn2) hr hF hb (fun H hO hS => hsp H a ns hlen hO hS)
end QB

namespace QB
open PySem L2
/-! ### running a meaning on a written environment: one equation a word -/
section
variable {α β : Type} {e : En}
@[simp] theorem ret_app {a : α} : EM.ret a e = .ok a e := rfl
@[simp] theorem bad_app : (EM.bad : EM α) e = .bad := rfl
@[simp ↓] theorem ite_app {p : Prop} [Decidable p] {m n : EM α} : (if p then m else n) e = if p then m e else n e := by split <;> rfl
@[simp ↓] theorem ites_app {p : Prop} [Decidable p] {m n : SM} : (if p then m else n) e = if p then m e else n e := by split <;> rfl
@[simp] theorem getM_app {i : Nat} : getM i e = match e[i]? with
  | some (some (.val p)) => .ok (.val p) e
  | some (some (.own o)) => .ok (.val o.pv) (e.set i (some (.val o.pv)))
  | _ => .bad := rfl
@[simp] theorem slotM_app {i : Nat} : slotM i e = match e[i]? with
  | some (some _) => .ok (.slot i) e
  | _ => .bad := rfl
@[simp ↓] theorem opdM_app {m : EM RV} : opdM m e = match m e with
  | .ok r e' => .ok (.pv r.pv) e'
  | .exc x e' => .exc x e'
  | .bad => .bad := by
  unfold opdM EM.bind
  cases m e <;> rfl
@[simp] theorem opdsNil_app : opdsNil e = .ok [] e := rfl
@[simp] theorem valsNil_app : valsNil e = .ok [] e := rfl
@[simp ↓] theorem opdsCons_app {m : EM Opd} {ms : EM (List Opd)} : opdsCons m ms e = match m e with
  | .ok o e1 => (match ms e1 with
    | .ok os e2 => .ok (o :: os) e2
    | .exc x e2 => .exc x e2
    | .bad => .bad)
  | .exc x e1 => .exc x e1
  | .bad => .bad := by
  unfold opdsCons EM.bind
  cases m e with
  | ok a e1 => dsimp only; cases ms e1 <;> rfl
  | _ => rfl
@[simp ↓] theorem valsCons_app {m : EM RV} {ms : EM (List PV)} : valsCons m ms e = match m e with
  | .ok o e1 => (match ms e1 with
    | .ok os e2 => .ok (o.pv :: os) e2
    | .exc x e2 => .exc x e2
    | .bad => .bad)
  | .exc x e1 => .exc x e1
  | .bad => .bad := by
  unfold valsCons EM.bind
  cases m e with
  | ok a e1 => dsimp only; cases ms e1 <;> rfl
  | _ => rfl
@[simp ↓] theorem tupM_app {m : EM (List PV)} : tupM m e = match m e with
  | .ok ps e1 => if szOk ps.length then .ok (.val (.tup ps)) e1 else .bad
  | .exc x e1 => .exc x e1
  | .bad => .bad := by
  unfold tupM EM.bind
  cases m e with
  | ok ps e1 => dsimp only; split <;> rfl
  | _ => rfl
@[simp ↓] theorem lstM_app {m : EM (List PV)} : lstM m e = match m e with
  | .ok ps e1 => if szOk ps.length then .ok (.own (.lst ps)) e1 else .bad
  | .exc x e1 => .exc x e1
  | .bad => .bad := by
  unfold lstM EM.bind
  cases m e with
  | ok ps e1 => dsimp only; split <;> rfl
  | _ => rfl
@[simp ↓] theorem two_app {m n : EM Opd} {f : PV → PV → EM α} : two m n f e = match m e with
  | .ok a e1 => (match n e1 with
    | .ok b e2 => (match a.look e2 with
      | some x => (match b.look e2 with
        | some y => f x y e2
        | none => .bad)
      | none => .bad)
    | .exc x e2 => .exc x e2
    | .bad => .bad)
  | .exc x e1 => .exc x e1
  | .bad => .bad := by
  unfold two EM.bind lookM
  cases m e with
  | ok a e1 =>
    dsimp only
    cases n e1 with
    | ok b e2 =>
      dsimp only
      cases a.look e2 with
      | none => rfl
      | some x => dsimp only; cases b.look e2 <;> rfl
    | _ => rfl
  | _ => rfl
@[simp ↓] theorem one_app {m : EM Opd} {f : PV → EM α} : one m f e = match m e with
  | .ok a e1 => (match a.look e1 with
    | some x => f x e1
    | none => .bad)
  | .exc x e1 => .exc x e1
  | .bad => .bad := by
  unfold one EM.bind lookM
  cases m e with
  | ok a e1 => dsimp only; cases a.look e1 <;> rfl
  | _ => rfl
@[simp ↓] theorem boolM_app {m : EM RV} : boolM m e = match m e with
  | .ok r e1 => (match r.pv with
    | .bl b => .ok b e1
    | _ => .bad)
  | .exc x e1 => .exc x e1
  | .bad => .bad := by
  unfold boolM EM.bind
  cases m e with
  | ok r e1 => dsimp only; cases r.pv <;> rfl
  | _ => rfl
@[simp ↓] theorem truM_app {m : EM Opd} : truM m e = match m e with
  | .ok a e1 => (match a.look e1 with
    | some x => (match truP x with
      | some b => .ok b e1
      | none => .bad)
    | none => .bad)
  | .exc x e1 => .exc x e1
  | .bad => .bad := by
  unfold truM
  rw [one_app]
  cases m e with
  | ok a e1 =>
    dsimp only
    cases a.look e1 with
    | none => rfl
    | some x => dsimp only; cases truP x <;> rfl
  | _ => rfl
@[simp ↓] theorem andT_app {a b : EM Bool} : andT a b e = match a e with
  | .ok c e1 => if c then b e1 else .ok false e1
  | .exc x e1 => .exc x e1
  | .bad => .bad := by
  unfold andT EM.bind
  cases a e with
  | ok c e1 => cases c <;> rfl
  | _ => rfl
@[simp ↓] theorem orT_app {a b : EM Bool} : orT a b e = match a e with
  | .ok c e1 => if c then .ok true e1 else b e1
  | .exc x e1 => .exc x e1
  | .bad => .bad := by
  unfold orT EM.bind
  cases a e with
  | ok c e1 => cases c <;> rfl
  | _ => rfl
@[simp ↓] theorem notT_app {a : EM Bool} : notT a e = match a e with
  | .ok c e1 => .ok (!c) e1
  | .exc x e1 => .exc x e1
  | .bad => .bad := by
  unfold notT EM.bind
  cases a e <;> rfl
@[simp ↓] theorem andV_app {a b : EM RV} : andV a b e = match boolM a e with
  | .ok c e1 => if c then b e1 else .ok (.val (.bl false)) e1
  | .exc x e1 => .exc x e1
  | .bad => .bad := by
  unfold andV EM.bind
  cases boolM a e with
  | ok c e1 => cases c <;> rfl
  | _ => rfl
@[simp ↓] theorem orV_app {a b : EM RV} : orV a b e = match boolM a e with
  | .ok c e1 => if c then .ok (.val (.bl true)) e1 else b e1
  | .exc x e1 => .exc x e1
  | .bad => .bad := by
  unfold orV EM.bind
  cases boolM a e with
  | ok c e1 => cases c <;> rfl
  | _ => rfl
@[simp ↓] theorem notV_app {m : EM Opd} : notV m e = match truM m e with
  | .ok c e1 => .ok (.val (.bl (!c))) e1
  | .exc x e1 => .exc x e1
  | .bad => .bad := by
  unfold notV EM.bind
  cases truM m e <;> rfl
@[simp ↓] theorem iteM_app {t : EM Bool} {a b : EM α} : iteM t a b e = match t e with
  | .ok c e1 => if c then a e1 else b e1
  | .exc x e1 => .exc x e1
  | .bad => .bad := by
  unfold iteM EM.bind
  cases t e with
  | ok c e1 => cases c <;> rfl
  | _ => rfl
@[simp ↓] theorem ixM_app {m n : EM Opd} : ixM m n e = two m n (fun x y => retP (ixP x y)) e := rfl
@[simp] theorem retP_app {o : Option PV} : retP o e = match o with
  | some p => .ok (.val p) e
  | none => .bad := by cases o <;> rfl
@[simp] theorem retO_app {o : Option Bool} : retO o e = match o with
  | some p => .ok (.val (.bl p)) e
  | none => .bad := by cases o <;> rfl
@[simp] theorem retB_app {b : Bool} : retB b e = .ok (.val (.bl b)) e := rfl
@[simp] theorem optM_app {o : Option α} : EM.opt o e = match o with
  | some p => .ok p e
  | none => .bad := by cases o <;> rfl
@[simp ↓] theorem bltM_app {ms : EM (List Opd)} {f : List PV → EM RV} : bltM ms f e = match ms e with
  | .ok os e1 => (match looks e1 os with
    | some ps => f ps e1
    | none => .bad)
  | .exc x e1 => .exc x e1
  | .bad => .bad := by
  unfold bltM EM.bind looksM
  cases ms e with
  | ok os e1 => dsimp only; cases looks e1 os <;> rfl
  | _ => rfl
@[simp ↓] theorem callM_app {F : FSem} {np : Nat} {s : Shape} {ms mk : EM (List Opd)} : callM F np s ms mk e = match ms e with
  | .ok os e1 => (match mk e1 with
    | .ok zs e2 => callK F np s os zs e2
    | .exc x e2 => .exc x e2
    | .bad => .bad)
  | .exc x e1 => .exc x e1
  | .bad => .bad := by
  unfold callM EM.bind
  cases ms e with
  | ok a e1 => dsimp only; cases mk e1 <;> rfl
  | _ => rfl
@[simp] theorem callK_app {F : FSem} {np : Nat} {s : Shape} {os zs : List Opd} : callK F np s os zs e = if decide (os.length = s.n ∧ zs.length = s.ks.length ∧ (pick s.src os zs (s.dfl.map .pv)).length = np) then callE F (pick s.src os zs (s.dfl.map .pv)) e else .bad := by
  unfold callK
  split <;> rfl
@[simp] theorem callE_app {F : FSem} {os : List Opd} : callE F os e = match resolve e 0 os with
  | some (ss, bs) => (match F ss with
    | .ret r e' => (match giveBack bs e' e with
      | some e2 => .ok r e2
      | none => .bad)
    | .exc x e' => (match giveBack bs e' e with
      | some e2 => .exc x e2
      | none => .bad)
    | .bad => .bad)
  | none => .bad := rfl
@[simp] theorem chgM_app {i : Nat} {f : List PV → Option (List PV × α)} : chgM i f e = match lstAt i e with
  | some (s, xs) => (match f xs with
    | some (ys, a) => .ok a (e.set i (some (s.put (.lst ys))))
    | none => .bad)
  | none => .bad := rfl
@[simp ↓] theorem appM_app {i : Nat} {m : EM RV} : appM i m e = match e[i]? with
  | some (some _) => (match lstAt i e with
    | some _ => (match m e with
      | .ok r e1 => chgM i (appX r.pv) e1
      | .exc x e1 => .exc x e1
      | .bad => .bad)
    | none => .bad)
  | _ => .bad := by
  unfold appM EM.bind slotM isLst
  cases e[i]? with
  | none => rfl
  | some o =>
    cases o with
    | none => rfl
    | some s =>
      dsimp only
      cases lstAt i e with
      | none => rfl
      | some _ => dsimp only; cases m e <;> rfl
@[simp ↓] theorem extM_app {i : Nat} {m : EM Opd} : extM i m e = match e[i]? with
  | some (some _) => (match lstAt i e with
    | some _ => (match m e with
      | .ok a e1 => (match a.look e1 with
        | some x => lstM' (fun ps => chgM i (extX ps)) x e1
        | none => .bad)
      | .exc x e1 => .exc x e1
      | .bad => .bad)
    | none => .bad)
  | _ => .bad := by
  unfold extM EM.bind slotM isLst lookM
  cases e[i]? with
  | none => rfl
  | some o =>
    cases o with
    | none => rfl
    | some s =>
      dsimp only
      cases lstAt i e with
      | none => rfl
      | some _ =>
        dsimp only
        cases m e with
        | ok a e1 => dsimp only; cases a.look e1 <;> rfl
        | _ => rfl
/-! statements -/
@[simp] theorem skipM_app : skipM e = .nx e := rfl
@[simp ↓] theorem seqM_app {a b : SM} : seqM a b e = match a e with
  | .nx e' => b e'
  | r => r := rfl
@[simp ↓] theorem thenS_app {m : EM α} {f : α → SM} : thenS m f e = match m e with
  | .ok a e' => f a e'
  | .exc x e' => .xc x e'
  | .bad => .bad := rfl
@[simp ↓] theorem retM_app {m : EM RV} : retM m e = match m e with
  | .ok a e' => .rt a e'
  | .exc x e' => .xc x e'
  | .bad => .bad := by
  unfold retM thenS
  cases m e <;> rfl
@[simp ↓] theorem exprM_app {m : EM RV} : exprM m e = match m e with
  | .ok _ e' => .nx e'
  | .exc x e' => .xc x e'
  | .bad => .bad := by
  unfold exprM thenS
  cases m e <;> rfl
@[simp ↓] theorem asgM_app {i : Nat} {m : EM RV} : asgM i m e = match m e with
  | .ok r e' => optS (setSl i r.slot e')
  | .exc x e' => .xc x e'
  | .bad => .bad := by
  unfold asgM thenS
  cases m e <;> rfl
@[simp ↓] theorem asg2M_app {i j : Nat} {m : EM (List PV)} : asg2M i j m e = match m e with
  | .ok [p, q] e' => (match setSl i (.val p) e' with
    | some e1 => optS (setSl j (.val q) e1)
    | none => .bad)
  | .ok _ e' => .bad
  | .exc x e' => .xc x e'
  | .bad => .bad := by
  unfold asg2M thenS
  cases m e with
  | ok ps e' =>
    match ps with
    | [] => rfl
    | [_] => rfl
    | [_, _] => rfl
    | _ :: _ :: _ :: _ => rfl
  | _ => rfl
@[simp ↓] theorem asg3M_app {i j l : Nat} {m : EM (List PV)} : asg3M i j l m e = match m e with
  | .ok [p, q, r] e' => (match setSl i (.val p) e' with
    | some e1 => (match setSl j (.val q) e1 with
      | some e2 => optS (setSl l (.val r) e2)
      | none => .bad)
    | none => .bad)
  | .ok _ e' => .bad
  | .exc x e' => .xc x e'
  | .bad => .bad := by
  unfold asg3M thenS
  cases m e with
  | ok ps e' =>
    match ps with
    | [] => rfl
    | [_] => rfl
    | [_, _] => rfl
    | [_, _, _] => rfl
    | _ :: _ :: _ :: _ :: _ => rfl
  | _ => rfl
@[simp ↓] theorem valsStar_app {m : EM RV} {ms : EM (List PV)} : valsStar m ms e = match m e with
  | .ok r e1 => (match seqP r.pv with
    | some xs => (match ms e1 with
      | .ok os e2 => .ok (xs ++ os) e2
      | .exc x e2 => .exc x e2
      | .bad => .bad)
    | none => .bad)
  | .exc x e1 => .exc x e1
  | .bad => .bad := by
  unfold valsStar EM.bind
  cases m e with
  | ok r e1 =>
    dsimp only
    cases seqP r.pv with
    | none => rfl
    | some xs =>
      dsimp only [EM.opt, EM.ret]
      cases ms e1 <;> rfl
  | _ => rfl
@[simp ↓] theorem partM_app {m : EM Opd} : partM m e = match m e with
  | .ok a e1 => (match a.look e1 with
    | some (.int i) => .ok (some i) e1
    | _ => .bad)
  | .exc x e1 => .exc x e1
  | .bad => .bad := by
  unfold partM
  rw [one_app]
  cases m e with
  | ok a e1 =>
    dsimp only
    cases a.look e1 with
    | none => rfl
    | some x => cases x <;> rfl
  | _ => rfl
@[simp ↓] theorem noPart_app : noPart e = .ok none e := rfl
@[simp ↓] theorem slcM_app {mo : EM Opd} {ml mh : EM (Option Int)} : slcM mo ml mh e = match mo e with
  | .ok o e1 => (match ml e1 with
    | .ok l e2 => (match mh e2 with
      | .ok h e3 => (match o.look e3 with
        | some p => slP p l h e3
        | none => .bad)
      | .exc x e3 => .exc x e3
      | .bad => .bad)
    | .exc x e2 => .exc x e2
    | .bad => .bad)
  | .exc x e1 => .exc x e1
  | .bad => .bad := by
  unfold slcM EM.bind lookM
  cases mo e with
  | ok o e1 =>
    dsimp only
    cases ml e1 with
    | ok l e2 =>
      dsimp only
      cases mh e2 with
      | ok h e3 => dsimp only; cases o.look e3 <;> rfl
      | _ => rfl
    | _ => rfl
  | _ => rfl
@[simp ↓] theorem altM_app {b : En → Bool} {m n : EM α} : altM b m n e = if b e then m e else n e := rfl
@[simp ↓] theorem exnM_app {i : Nat} {f : PX → EM α} : exnM i f e = match e[i]? with
  | some (some (.exn x)) => f x e
  | _ => .bad := rfl
@[simp ↓] theorem isxM_app {fq : List Fq} {i : Nat} {ts : List CK} : isxM fq i ts e = match e[i]? with
  | some (some (.exn x)) => (match xisB fq x.cls ts with
    | some b => .ok (.val (.bl b)) e
    | none => .bad)
  | _ => .bad := by
  unfold isxM exnM
  cases e[i]? with
  | none => rfl
  | some o =>
    cases o with
    | none => rfl
    | some s =>
      cases s with
      | exn x => dsimp only; cases xisB fq x.cls ts <;> rfl
      | _ => rfl
@[simp ↓] theorem xflM_app {fq : List Fq} {i : Nat} {f : Str} : xflM fq i f e = match e[i]? with
  | some (some (.exn x)) => if xflT fq x.cls f then (match x.fld f with
    | some p => .ok (.val p) e
    | none => .bad) else .bad
  | _ => .bad := by
  unfold xflM exnM
  cases e[i]? with
  | none => rfl
  | some o =>
    cases o with
    | none => rfl
    | some s =>
      cases s with
      | exn x =>
        dsimp only
        split
        · cases x.fld f <;> rfl
        · rfl
      | _ => rfl
@[simp] theorem raiseM_app {x : PX} : raiseM x e = .xc x e := rfl
@[simp ↓] theorem tryAs_app {fq : List Fq} {b h : SM} {C : Str} {i : Nat} : tryAs fq b C i h e = match b e with
  | .xc x e' => (match exmT fq x.cls C with
    | some true => (match setSl i (.exn x) e' with
      | some e1 => behindS i (h e1)
      | none => .bad)
    | some false => .xc x e'
    | none => .bad)
  | r => r := rfl
@[simp ↓] theorem tryOn_app {fq : List Fq} {b h : SM} {C : Str} : tryOn fq b C h e = match b e with
  | .xc x e' => (match exmT fq x.cls C with
    | some true => suiteS (h e')
    | some false => .xc x e'
    | none => .bad)
  | r => r := rfl
@[simp ↓] theorem unpM_app {b : Bnd} {m : EM RV} : unpM b m e = match m e with
  | .ok r e' => optS (b r.pv e')
  | .exc x e' => .xc x e'
  | .bad => .bad := by
  unfold unpM thenS
  cases m e <;> rfl
@[simp ↓] theorem setIxM_app {i : Nat} {mk : EM Opd} {mv : EM RV} : setIxM i mk mv e = match mv e with
  | .ok r e1 => (match e1[i]? with
    | some (some _) => (match mk e1 with
      | .ok o e2 => (match o.look e2 with
        | some (.int k) => (match chgM i (putIx k r.pv) e2 with
          | .ok _ e3 => .nx e3
          | .exc x e3 => .xc x e3
          | .bad => .bad)
        | _ => .bad)
      | .exc x e2 => .xc x e2
      | .bad => .bad)
    | _ => .bad)
  | .exc x e1 => .xc x e1
  | .bad => .bad := by
  unfold setIxM thenS setIxE EM.bind slotM lookM
  cases mv e with
  | ok r e1 =>
    dsimp only
    cases e1[i]? with
    | none => rfl
    | some o =>
      cases o with
      | none => rfl
      | some s =>
        dsimp only
        cases mk e1 with
        | ok o e2 =>
          dsimp only
          cases o.look e2 with
          | none => rfl
          | some p =>
            cases p with
            | int k => dsimp only [intM]; cases chgM i (putIx k r.pv) e2 <;> rfl
            | _ => rfl
        | _ => rfl
  | _ => rfl
@[simp ↓] theorem forI_app {b : Bnd} {m : EM (List PV)} {body : SM} : forI b m body e = match m e with
  | .ok xs e' => loopM b body xs e'
  | .exc x e' => .xc x e'
  | .bad => .bad := by
  unfold forI thenS
  cases m e <;> rfl
@[simp] theorem badS_app : badS e = .bad := rfl
@[simp ↓] theorem itV_app {m : EM RV} : itV m e = match m e with
  | .ok r e' => (match itemsOf r.pv with
    | some ps => .ok ps e'
    | none => .bad)
  | .exc x e' => .exc x e'
  | .bad => .bad := by
  unfold itV EM.bind
  cases m e with
  | ok r e' => first | rfl | (dsimp only; cases itemsOf r.pv <;> rfl)
  | _ => rfl
@[simp ↓] theorem itA_app {f : List PV → Option (List PV)} {ms : EM (List Opd)} : itA f ms e = match ms e with
  | .ok os e1 => (match looks e1 os with
    | some ps => (match f ps with
      | some xs => .ok xs e1
      | none => .bad)
    | none => .bad)
  | .exc x e1 => .exc x e1
  | .bad => .bad := by
  unfold itA EM.bind looksM
  cases ms e with
  | ok os e1 =>
    dsimp only
    cases looks e1 os with
    | none => rfl
    | some ps => dsimp only; cases f ps <;> rfl
  | _ => rfl
@[simp ↓] theorem isiM_app {fq : List Fq} {m : EM Opd} {ts : List CK} : isiM fq m ts e = match m e with
  | .ok a e1 => (match a.look e1 with
    | some x => (match isiP fq ts x with
      | some b => .ok (.val (.bl b)) e1
      | none => .bad)
    | none => .bad)
  | .exc x e1 => .exc x e1
  | .bad => .bad := by
  unfold isiM
  rw [one_app]
  cases m e with
  | ok a e1 =>
    dsimp only
    cases a.look e1 with
    | none => rfl
    | some x => dsimp only; cases isiP fq ts x <;> rfl
  | _ => rfl
@[simp ↓] theorem strM1_app {mo m : EM Opd} {f : Str → PV → EM RV} : strM1 mo m f e = match mo e with
  | .ok o e1 => (match o.look e1 with
    | some (.str a) => (match m e1 with
      | .ok b e2 => (match b.look e2 with
        | some y => f a y e2
        | none => .bad)
      | .exc x e2 => .exc x e2
      | .bad => .bad)
    | _ => .bad)
  | .exc x e1 => .exc x e1
  | .bad => .bad := by
  unfold strM1 EM.bind lookM
  cases mo e with
  | ok o e1 =>
    dsimp only
    cases o.look e1 with
    | none => rfl
    | some p =>
      cases p with
      | str a =>
        dsimp only
        cases m e1 with
        | ok b e2 => dsimp only; cases b.look e2 <;> rfl
        | _ => rfl
      | _ => rfl
  | _ => rfl
@[simp ↓] theorem fjM_nil {acc : Str} : fjM [] acc e = .ok (.val (.str acc)) e := rfl
@[simp ↓] theorem fjM_cons {m : EM RV} {ms : List (EM RV)} {acc : Str} : fjM (m :: ms) acc e = match m e with
  | .ok r e1 => (match r.pv with
    | .str y => if szOk (acc ++ y).length then fjM ms (acc ++ y) e1 else .bad
    | _ => .bad)
  | .exc x e1 => .exc x e1
  | .bad => .bad := by
  rw [show fjM (m :: ms) acc = m.bind (fun r => match r.pv with
    | .str y => if szOk (acc ++ y).length then fjM ms (acc ++ y) else EM.bad
    | _ => EM.bad) from rfl]
  unfold EM.bind
  cases m e with
  | ok r e1 =>
    dsimp only
    cases r.pv with
    | str y => dsimp only; split <;> rfl
    | _ => rfl
  | _ => rfl
@[simp ↓] theorem lcM_app {m : EM (List PV)} {b : Bnd} {tt : EM Bool} {vs : List Nat} {inner : EM (List PV)} : lcM m b tt vs inner e = match m e with
  | .ok xs e1 => (if cleanE e1 vs then (match lcLoop (lcTurn b tt vs inner) xs (wipeE e1 vs) with
    | .ok rs e2 => if szOk rs.length then .ok (.own (.lst rs)) (restE e2 e1 vs) else .bad
    | _ => .bad) else .bad)
  | .exc x e1 => .exc x e1
  | .bad => .bad := rfl
@[simp ↓] theorem lcTurn_app {b : Bnd} {tt : EM Bool} {vs : List Nat} {inner : EM (List PV)} {p : PV} : lcTurn b tt vs inner p e = match b p e with
  | none => .bad
  | some e1 => (match tt e1 with
    | .ok true e2 => (match inner e2 with
      | .ok rs e3 => .ok rs (wipeE e3 vs)
      | _ => .bad)
    | .ok false e2 => .ok [] (wipeE e2 vs)
    | _ => .bad) := rfl
@[simp ↓] theorem eltM_app {te : EM RV} : eltM te e = match te e with
  | .ok r e' => .ok [r.pv] e'
  | _ => .bad := rfl
@[simp ↓] theorem lcIn_app {m : EM (List PV)} {b : Bnd} {tt : EM Bool} {vs : List Nat} {inner : EM (List PV)} : lcIn m b tt vs inner e = match m e with
  | .ok xs e' => lcLoop (lcTurn b tt vs inner) xs (wipeE e' vs)
  | _ => .bad := rfl
@[simp] theorem lcLoop_nil {turn : PV → EM (List PV)} : lcLoop turn [] e = .ok [] e := rfl
theorem lcLoop_cons' {turn : PV → EM (List PV)} {p : PV} {ps : List PV} : lcLoop turn (p :: ps) e = match turn p e with
  | .ok rs e1 => (match lcLoop turn ps e1 with
    | .ok ss e2 => .ok (rs ++ ss) e2
    | _ => .bad)
  | _ => .bad := rfl
@[simp] theorem wipeE_nil : wipeE e [] = e := rfl
@[simp] theorem wipeE_cons {v : Nat} {vs : List Nat} : wipeE e (v :: vs) = (wipeE e vs).set v none := rfl
@[simp] theorem restE_nil {e1 : En} : restE e e1 [] = e := rfl
@[simp] theorem restE_cons {e1 : En} {v : Nat} {vs : List Nat} : restE e e1 (v :: vs) = (restE e e1 vs).set v (e1.getD v none) := rfl
@[simp] theorem cleanE_app {vs : List Nat} : cleanE e vs = vs.all fun v => plainO (e.getD v none) := rfl
@[simp] theorem plainO_none : plainO none = true := rfl
@[simp] theorem plainO_val {p : PV} : plainO (some (.val p)) = true := rfl
end
/-! values -/
@[simp] theorem pv_val {p : PV} : (RV.val p).pv = p := rfl
@[simp] theorem pv_own {o : MO} : (RV.own o).pv = o.pv := rfl
@[simp] theorem mo_lst {xs : List PV} : (MO.lst xs).pv = .lst xs := rfl
@[simp] theorem mo_ins {c : Str} {ks : List Str} {xs : List PV} : (MO.ins c ks xs).pv = .ins c ks xs := rfl
@[simp] theorem slot_val {p : PV} : (RV.val p).slot = .val p := rfl
@[simp] theorem slot_own {o : MO} : (RV.own o).slot = .own o := rfl
@[simp] theorem spv_val {p : PV} : (Slot.val p).pv = p := rfl
@[simp] theorem spv_own {o : MO} : (Slot.own o).pv = o.pv := rfl
@[simp] theorem spv_par {o : MO} : (Slot.par o).pv = o.pv := rfl
@[simp] theorem pvo_val {p : PV} : (Slot.val p).pvo = some p := rfl
@[simp] theorem pvo_own {o : MO} : (Slot.own o).pvo = some o.pv := rfl
@[simp] theorem pvo_par {o : MO} : (Slot.par o).pvo = some o.pv := rfl
@[simp] theorem pvo_exn {x : PX} : (Slot.exn x).pvo = none := rfl
@[simp] theorem look_pv {e : En} {p : PV} : (Opd.pv p).look e = some p := rfl
@[simp] theorem look_slot {e : En} {i : Nat} : (Opd.slot i).look e = match e[i]? with
    | some (some s) => s.pvo
    | _ => none := rfl
@[simp] theorem looks_nil {e : En} : looks e [] = some [] := rfl
@[simp] theorem looks_cons {e : En} {o : Opd} {os : List Opd} : looks e (o :: os) = match o.look e with
  | some p => (match looks e os with
    | some ps => some (p :: ps)
    | none => none)
  | none => none := by
  show (match o.look e, looks e os with | some p, some ps => some (p :: ps) | _, _ => none) = _
  cases o.look e <;> cases looks e os <;> rfl
@[simp] theorem lstAt_app {e : En} {i : Nat} : lstAt i e = match e[i]? with
  | some (some s) => (match s.mo with
    | some (.lst xs) => some (s, xs)
    | _ => none)
  | _ => none := rfl
@[simp] theorem mo_own {o : MO} : (Slot.own o).mo = some o := rfl
@[simp] theorem mo_par {o : MO} : (Slot.par o).mo = some o := rfl
@[simp] theorem put_own {o o' : MO} : (Slot.own o).put o' = .own o' := rfl
@[simp] theorem put_par {o o' : MO} : (Slot.par o).put o' = .par o' := rfl
@[simp] theorem setSl_app {i : Nat} {s : Slot} {e : En} : setSl i s e = match e[i]? with
  | some o => if pinO o then none else some (e.set i (some s))
  | none => none := rfl
@[simp] theorem pinO_none : pinO none = false := rfl
@[simp] theorem pinO_val {p : PV} : pinO (some (.val p)) = false := rfl
@[simp] theorem pinO_own {o : MO} : pinO (some (.own o)) = false := rfl
@[simp] theorem optS_some {e : En} : optS (some e) = .nx e := rfl
@[simp] theorem optS_none : optS none = .bad := rfl
@[simp] theorem res_nil {e : En} {k : Nat} : resolve e k [] = some ([], []) := rfl
@[simp] theorem res_pv {e : En} {k : Nat} {p : PV} {os : List Opd} : resolve e k (.pv p :: os) = match resolve e (k + 1) os with
    | some (ss, bs) => some (.val p :: ss, bs)
    | none => none := rfl
@[simp] theorem res_slot {e : En} {k i : Nat} {os : List Opd} : resolve e k (.slot i :: os) = match e[i]?, resolve e (k + 1) os with
    | some (some (.val p)), some (ss, bs) => some (.val p :: ss, bs)
    | some (some (.own o)), some (ss, bs) => some (.par o :: ss, (k, i) :: bs)
    | some (some (.par o)), some (ss, bs) => some (.par o :: ss, (k, i) :: bs)
    | _, _ => none := rfl
@[simp] theorem gb_nil {e' e : En} : giveBack [] e' e = some e := rfl
@[simp] theorem gb_one {e' e : En} {k i : Nat} : giveBack [(k, i)] e' e = match e'[k]?, e[i]? with
    | some (some (.par o)), some (some s) => some (e.set i (some (s.put o)))
    | _, _ => none := rfl
@[simp] theorem bndNm_app {i : Nat} {p : PV} {e : En} : bndNm i p e = setSl i (.val p) e := rfl
/-! operators on whole numbers -/
section
variable {i j : Int} {e : En}
@[simp] theorem c_lt_i : opC .Lt (.int i) (.int j) e = .ok (.val (.bl (decide (i < j)))) e := rfl
@[simp] theorem c_le_i : opC .LtE (.int i) (.int j) e = .ok (.val (.bl (decide (i ≤ j)))) e := rfl
@[simp] theorem c_gt_i : opC .Gt (.int i) (.int j) e = .ok (.val (.bl (decide (j < i)))) e := rfl
@[simp] theorem c_ge_i : opC .GtE (.int i) (.int j) e = .ok (.val (.bl (decide (j ≤ i)))) e := rfl
theorem eqP_int : eqP (.int i) (.int j) = some (i == j) := by
  simp [eqP, PV.data, shp, SeqAt.shaped, PyData.canLay0, PyData.depth, PyData.eqv]
@[simp] theorem c_eq_i : opC .Eq (.int i) (.int j) e = .ok (.val (.bl (i == j))) e := by
  show ((EM.opt (eqP (.int i) (.int j))).bind retB) e = _
  rw [eqP_int]; rfl
@[simp] theorem c_ne_i : opC .NotEq (.int i) (.int j) e = .ok (.val (.bl (!(i == j)))) e := by
  show ((EM.opt (eqP (.int i) (.int j))).bind fun b => retB (!b)) e = _
  rw [eqP_int]; rfl
theorem opEq_app {x y : PV} : opC .Eq x y e = match eqP x y with
  | some b => .ok (.val (.bl b)) e
  | none => .bad := by
  show ((EM.opt (eqP x y)).bind retB) e = _
  cases eqP x y <;> rfl
theorem opNe_app {x y : PV} : opC .NotEq x y e = match eqP x y with
  | some b => .ok (.val (.bl (!b))) e
  | none => .bad := by
  show ((EM.opt (eqP x y)).bind fun b => retB (!b)) e = _
  cases eqP x y <;> rfl
theorem eqP_str {a b : Str} (ha : PyData.strOk a = true) (hb : PyData.strOk b = true) : eqP (.str a) (.str b) = some (a == b) := by
  simp [eqP, PV.data, shp, SeqAt.shaped, PyData.canLay0, PyData.depth, PyData.eqv, *]
theorem eqP_non : eqP .non .non = some true := by
  simp [eqP, PV.data, shp, SeqAt.shaped, PyData.canLay0, PyData.depth, PyData.eqv, *]
theorem eqP_non_str {b : Str} (hb : PyData.strOk b = true) : eqP .non (.str b) = some false := by
  simp [eqP, PV.data, shp, SeqAt.shaped, PyData.canLay0, PyData.depth, PyData.eqv, *]
theorem eqP_str_non {b : Str} (hb : PyData.strOk b = true) : eqP (.str b) .non = some false := by
  simp [eqP, PV.data, shp, SeqAt.shaped, PyData.canLay0, PyData.depth, PyData.eqv, *]
@[simp] theorem b_add_i : opB .Add (.int i) (.int j) e = .ok (.val (.int (i + j))) e := rfl
@[simp] theorem b_sub_i : opB .Sub (.int i) (.int j) e = .ok (.val (.int (i - j))) e := rfl
@[simp] theorem b_mul_i : opB .Mult (.int i) (.int j) e = if mulOk i j then .ok (.val (.int (i * j))) e else .bad := by
  show (if mulOk i j = true then EM.ret (RV.val (PV.int (i * j))) else EM.bad) e = _
  split <;> rfl
@[simp] theorem b_mod_i : opB .Mod (.int i) (.int j) e = if 0 < j then .ok (.val (.int (i % j))) e else .bad := by
  show (if decide (0 < j) = true then EM.ret (RV.val (PV.int (i % j))) else EM.bad) e = _
  by_cases h : 0 < j <;> simp [h]
@[simp] theorem b_div_i : opB .FloorDiv (.int i) (.int j) e = if 0 < j ∧ j < 1073741824 then .ok (.val (.int (i / j))) e else .bad := by
  show (if decide (0 < j ∧ j < 1073741824) = true then EM.ret (RV.val (PV.int (i / j))) else EM.bad) e = _
  by_cases h : 0 < j ∧ j < 1073741824 <;> simp [h]
@[simp] theorem b_pow_i : opB .Pow (.int i) (.int j) e = if 0 ≤ j ∧ j ≤ 1000000 ∧ i.natAbs < 2 ^ 64 then .ok (.val (.int (i ^ j.toNat))) e else .bad := by
  show (if decide (0 ≤ j ∧ j ≤ 1000000 ∧ i.natAbs < 2 ^ 64) = true then EM.ret (RV.val (PV.int (i ^ j.toNat))) else EM.bad) e = _
  by_cases h : 0 ≤ j ∧ j ≤ 1000000 ∧ i.natAbs < 2 ^ 64
  · rw [if_pos (decide_eq_true h), if_pos h]; rfl
  · rw [if_neg (by simpa using h), if_neg h]; rfl
@[simp] theorem b_cat {xs ys : List PV} : opB .Add (.lst xs) (.lst ys) e = if szOk (xs.length + ys.length) then .ok (.own (.lst (xs ++ ys))) e else .bad := by
  show (if szOk (xs.length + ys.length) = true then EM.ret (RV.own (MO.lst (xs ++ ys))) else EM.bad) e = _
  split <;> rfl
theorem mulOk_l (h : -(2 ^ 64) < i ∧ i < 2 ^ 64) : mulOk i j = true := decide_eq_true (.inl h)
theorem mulOk_r (h : -(2 ^ 64) < j ∧ j < 2 ^ 64) : mulOk i j = true := decide_eq_true (.inr h)
@[simp] theorem ix_t0 {x : PV} {xs : List PV} : ixP (.tup (x :: xs)) (.int 0) = some x := by simp [ixP, atI, ixN]
@[simp] theorem ix_t1 {x y : PV} {xs : List PV} : ixP (.tup (x :: y :: xs)) (.int 1) = some y := by
  simp [ixP, atI, ixN]; rw [if_pos (by omega)]; rfl
@[simp] theorem ix_l0 {x : PV} {xs : List PV} : ixP (.lst (x :: xs)) (.int 0) = some x := by simp [ixP, atI, ixN]
@[simp] theorem ix_l1 {x y : PV} {xs : List PV} : ixP (.lst (x :: y :: xs)) (.int 1) = some y := by
  simp [ixP, atI, ixN]; rw [if_pos (by omega)]; rfl
@[simp] theorem ix_l2 {x y z : PV} {xs : List PV} : ixP (.lst (x :: y :: z :: xs)) (.int 2) = some z := by
  simp [ixP, atI, ixN]; rw [if_pos (by omega)]; rfl
@[simp] theorem put0 {x y : PV} {xs : List PV} : putIx 0 y (x :: xs) = some (y :: xs, ()) := by
  simp [putIx, ixN]
@[simp] theorem put1 {x x1 y : PV} {xs : List PV} : putIx 1 y (x :: x1 :: xs) = some (x :: y :: xs, ()) := by
  simp [putIx, ixN]; omega
@[simp] theorem put2 {x x1 x2 y : PV} {xs : List PV} : putIx 2 y (x :: x1 :: x2 :: xs) = some (x :: x1 :: y :: xs, ()) := by
  simp [putIx, ixN]; omega
@[simp] theorem bInt_i : bInt [.int i] e = .ok (.val (.int i)) e := rfl
@[simp] theorem bInt'_i : bInt' [.int i] e = .ok (.val (.int i)) e := rfl
@[simp] theorem bInt'_b {b : Bool} : bInt' [.bl b] e = .ok (.val (.int (if b then 1 else 0))) e := rfl
@[simp] theorem bAbs_i : bAbs [.int i] e = .ok (.val (.int (if i < 0 then -i else i))) e := rfl
@[simp] theorem bMax_i : bMax [.int i, .int j] e = .ok (.val (.int (if j > i then j else i))) e := rfl
@[simp] theorem bMin_i : bMin [.int i, .int j] e = .ok (.val (.int (if j < i then j else i))) e := rfl
@[simp] theorem bLen_l {xs : List PV} : bLen [.lst xs] e = .ok (.val (.int xs.length)) e := rfl
@[simp] theorem bLen_t {xs : List PV} : bLen [.tup xs] e = .ok (.val (.int xs.length)) e := rfl
@[simp] theorem bLen_r {xs : List PV} : bLen [.rdl xs] e = .ok (.val (.int xs.length)) e := rfl
@[simp] theorem szOk_lit {n : Nat} : szOk n = decide (n ≤ 16777216) := by unfold szOk; rw [sizeLine_eq]
end
@[simp] theorem bodyF_app {n : Nat} {m : SM} {args : List Slot} : bodyF n m args = match m (args.map some ++ List.replicate (n - args.length) none) with
  | .nx e => .ret (.val .non) e
  | .rt r e => .ret r e
  | .xc x e => .exc x e
  | _ => .bad := rfl
@[simp] theorem rng1_i {n : Int} : rng1 [.int n] = if inR n then some (rngP 0 n) else none := rfl
@[simp] theorem rng2_i {m n : Int} : rng2 [.int m, .int n] = if inR m && inR n then some (rngP m n) else none := rfl
@[simp] theorem itemsOf_l {xs : List PV} : itemsOf (.lst xs) = some xs := rfl
@[simp] theorem itemsOf_t {xs : List PV} : itemsOf (.tup xs) = some xs := rfl
@[simp] theorem itemsOf_r {xs : List PV} : itemsOf (.rdl xs) = some xs := rfl
theorem inR_of {i : Int} (h0 : -(2 ^ 62) ≤ i) (h1 : i < 2 ^ 62) : inR i = true := decide_eq_true ⟨h0, h1⟩
theorem rng_mem {lo hi : Int} {p : PV} (h : p ∈ rngP lo hi) : ∃ i : Int, lo ≤ i ∧ i < hi ∧ p = .int i := by
  unfold rngP at h
  obtain ⟨k, hk, rfl⟩ := List.mem_map.1 h
  have := List.mem_range.1 hk
  exact ⟨lo + k, by omega, by omega, rfl⟩
/-! ### loops -/
theorem loop_inv {b : Bnd} {body : SM} {I : En → Prop} : ∀ {ps : List PV} {e : En}, (∀ p ∈ ps, ∀ e, I e → ∃ e1, b p e = some e1 ∧ ∃ e2, body e1 = .nx e2 ∧ I e2) → I e → ∃ e', loopM b body ps e = .nx e' ∧ I e'
  | [], e, _, h => ⟨e, rfl, h⟩
  | p :: ps, e, ht, h => by
    obtain ⟨e1, h1, e2, h2, h3⟩ := ht p List.mem_cons_self e h
    obtain ⟨e', h4, h5⟩ := loop_inv (fun q hq => ht q (List.mem_cons_of_mem _ hq)) h3
    refine ⟨e', ?_, h5⟩
    unfold loopM
    rw [h1]
    dsimp only
    rw [h2]
    exact h4
end QB

namespace QB
open PySem L2
/-! ### answers of isinstance -/
theorem isi0 {fq : List Fq} {a b : String} {r : Bool} (h : kitB a b = some r) : isiB fq (.bt a) [.bt b] = some r := by
  unfold isiB
  show (match kitB a b with | some true => some true | some false => isiB fq (.bt a) [] | none => none) = some r
  rw [h]
  cases r <;> rfl
def kit2 (a b c : String) : Option Bool := match kitB a b with
  | some true => some true
  | some false => kitB a c
  | none => none
theorem isi1 {fq : List Fq} {a b : String} {r : Bool} {p : PV} (hp : ckN p = some (.bt a)) (h : kitB a b = some r) : isiP fq [.bt b] p = some r := by
  unfold isiP
  rw [hp]
  exact isi0 h
theorem isi2 {fq : List Fq} {a b c : String} {r : Bool} {p : PV} (hp : ckN p = some (.bt a)) (h : kit2 a b c = some r) : isiP fq [.bt b, .bt c] p = some r := by
  unfold isiP
  rw [hp]
  show isiB fq (.bt a) [.bt b, .bt c] = some r
  unfold kit2 at h
  unfold isiB
  show (match kitB a b with | some true => some true | some false => isiB fq (.bt a) [.bt c] | none => none) = some r
  cases z : kitB a b with
  | none => rw [z] at h; cases h
  | some q =>
    rw [z] at h
    cases q with
    | true => exact h
    | false => exact isi0 h
@[simp] theorem isi_int_non {fq : List Fq} : isiP fq [.bt "int"] .non = some false := isi1 rfl (by decide +kernel)
@[simp] theorem isi_int_bl {fq : List Fq} {b : Bool} : isiP fq [.bt "int"] (.bl b) = some true := isi1 rfl (by decide +kernel)
@[simp] theorem isi_int_int {fq : List Fq} {i : Int} : isiP fq [.bt "int"] (.int i) = some true := isi1 rfl (by decide +kernel)
@[simp] theorem isi_int_str {fq : List Fq} {x : Str} : isiP fq [.bt "int"] (.str x) = some false := isi1 rfl (by decide +kernel)
@[simp] theorem isi_int_tup {fq : List Fq} {xs : List PV} : isiP fq [.bt "int"] (.tup xs) = some false := isi1 rfl (by decide +kernel)
@[simp] theorem isi_int_lst {fq : List Fq} {xs : List PV} : isiP fq [.bt "int"] (.lst xs) = some false := isi1 rfl (by decide +kernel)
@[simp] theorem isi_int_rdl {fq : List Fq} {xs : List PV} : isiP fq [.bt "int"] (.rdl xs) = some false := isi1 rfl (by decide +kernel)
@[simp] theorem isi_int_dct {fq : List Fq} {ks : List Key} {xs : List PV} : isiP fq [.bt "int"] (.dct ks xs) = some false := isi1 rfl (by decide +kernel)
@[simp] theorem isi_bool_non {fq : List Fq} : isiP fq [.bt "bool"] .non = some false := isi1 rfl (by decide +kernel)
@[simp] theorem isi_bool_bl {fq : List Fq} {b : Bool} : isiP fq [.bt "bool"] (.bl b) = some true := isi1 rfl (by decide +kernel)
@[simp] theorem isi_bool_int {fq : List Fq} {i : Int} : isiP fq [.bt "bool"] (.int i) = some false := isi1 rfl (by decide +kernel)
@[simp] theorem isi_bool_str {fq : List Fq} {x : Str} : isiP fq [.bt "bool"] (.str x) = some false := isi1 rfl (by decide +kernel)
@[simp] theorem isi_bool_tup {fq : List Fq} {xs : List PV} : isiP fq [.bt "bool"] (.tup xs) = some false := isi1 rfl (by decide +kernel)
@[simp] theorem isi_bool_lst {fq : List Fq} {xs : List PV} : isiP fq [.bt "bool"] (.lst xs) = some false := isi1 rfl (by decide +kernel)
@[simp] theorem isi_bool_rdl {fq : List Fq} {xs : List PV} : isiP fq [.bt "bool"] (.rdl xs) = some false := isi1 rfl (by decide +kernel)
@[simp] theorem isi_bool_dct {fq : List Fq} {ks : List Key} {xs : List PV} : isiP fq [.bt "bool"] (.dct ks xs) = some false := isi1 rfl (by decide +kernel)
@[simp] theorem isi_str_non {fq : List Fq} : isiP fq [.bt "str"] .non = some false := isi1 rfl (by decide +kernel)
@[simp] theorem isi_str_bl {fq : List Fq} {b : Bool} : isiP fq [.bt "str"] (.bl b) = some false := isi1 rfl (by decide +kernel)
@[simp] theorem isi_str_int {fq : List Fq} {i : Int} : isiP fq [.bt "str"] (.int i) = some false := isi1 rfl (by decide +kernel)
@[simp] theorem isi_str_str {fq : List Fq} {x : Str} : isiP fq [.bt "str"] (.str x) = some true := isi1 rfl (by decide +kernel)
@[simp] theorem isi_str_tup {fq : List Fq} {xs : List PV} : isiP fq [.bt "str"] (.tup xs) = some false := isi1 rfl (by decide +kernel)
@[simp] theorem isi_str_lst {fq : List Fq} {xs : List PV} : isiP fq [.bt "str"] (.lst xs) = some false := isi1 rfl (by decide +kernel)
@[simp] theorem isi_str_rdl {fq : List Fq} {xs : List PV} : isiP fq [.bt "str"] (.rdl xs) = some false := isi1 rfl (by decide +kernel)
@[simp] theorem isi_str_dct {fq : List Fq} {ks : List Key} {xs : List PV} : isiP fq [.bt "str"] (.dct ks xs) = some false := isi1 rfl (by decide +kernel)
@[simp] theorem isi_tuple_non {fq : List Fq} : isiP fq [.bt "tuple"] .non = some false := isi1 rfl (by decide +kernel)
@[simp] theorem isi_tuple_bl {fq : List Fq} {b : Bool} : isiP fq [.bt "tuple"] (.bl b) = some false := isi1 rfl (by decide +kernel)
@[simp] theorem isi_tuple_int {fq : List Fq} {i : Int} : isiP fq [.bt "tuple"] (.int i) = some false := isi1 rfl (by decide +kernel)
@[simp] theorem isi_tuple_str {fq : List Fq} {x : Str} : isiP fq [.bt "tuple"] (.str x) = some false := isi1 rfl (by decide +kernel)
@[simp] theorem isi_tuple_tup {fq : List Fq} {xs : List PV} : isiP fq [.bt "tuple"] (.tup xs) = some true := isi1 rfl (by decide +kernel)
@[simp] theorem isi_tuple_lst {fq : List Fq} {xs : List PV} : isiP fq [.bt "tuple"] (.lst xs) = some false := isi1 rfl (by decide +kernel)
@[simp] theorem isi_tuple_rdl {fq : List Fq} {xs : List PV} : isiP fq [.bt "tuple"] (.rdl xs) = some false := isi1 rfl (by decide +kernel)
@[simp] theorem isi_tuple_dct {fq : List Fq} {ks : List Key} {xs : List PV} : isiP fq [.bt "tuple"] (.dct ks xs) = some false := isi1 rfl (by decide +kernel)
@[simp] theorem isi_list_non {fq : List Fq} : isiP fq [.bt "list"] .non = some false := isi1 rfl (by decide +kernel)
@[simp] theorem isi_list_bl {fq : List Fq} {b : Bool} : isiP fq [.bt "list"] (.bl b) = some false := isi1 rfl (by decide +kernel)
@[simp] theorem isi_list_int {fq : List Fq} {i : Int} : isiP fq [.bt "list"] (.int i) = some false := isi1 rfl (by decide +kernel)
@[simp] theorem isi_list_str {fq : List Fq} {x : Str} : isiP fq [.bt "list"] (.str x) = some false := isi1 rfl (by decide +kernel)
@[simp] theorem isi_list_tup {fq : List Fq} {xs : List PV} : isiP fq [.bt "list"] (.tup xs) = some false := isi1 rfl (by decide +kernel)
@[simp] theorem isi_list_lst {fq : List Fq} {xs : List PV} : isiP fq [.bt "list"] (.lst xs) = some true := isi1 rfl (by decide +kernel)
@[simp] theorem isi_list_rdl {fq : List Fq} {xs : List PV} : isiP fq [.bt "list"] (.rdl xs) = some true := isi1 rfl (by decide +kernel)
@[simp] theorem isi_list_dct {fq : List Fq} {ks : List Key} {xs : List PV} : isiP fq [.bt "list"] (.dct ks xs) = some false := isi1 rfl (by decide +kernel)
@[simp] theorem isi_dict_non {fq : List Fq} : isiP fq [.bt "dict"] .non = some false := isi1 rfl (by decide +kernel)
@[simp] theorem isi_dict_bl {fq : List Fq} {b : Bool} : isiP fq [.bt "dict"] (.bl b) = some false := isi1 rfl (by decide +kernel)
@[simp] theorem isi_dict_int {fq : List Fq} {i : Int} : isiP fq [.bt "dict"] (.int i) = some false := isi1 rfl (by decide +kernel)
@[simp] theorem isi_dict_str {fq : List Fq} {x : Str} : isiP fq [.bt "dict"] (.str x) = some false := isi1 rfl (by decide +kernel)
@[simp] theorem isi_dict_tup {fq : List Fq} {xs : List PV} : isiP fq [.bt "dict"] (.tup xs) = some false := isi1 rfl (by decide +kernel)
@[simp] theorem isi_dict_lst {fq : List Fq} {xs : List PV} : isiP fq [.bt "dict"] (.lst xs) = some false := isi1 rfl (by decide +kernel)
@[simp] theorem isi_dict_rdl {fq : List Fq} {xs : List PV} : isiP fq [.bt "dict"] (.rdl xs) = some false := isi1 rfl (by decide +kernel)
@[simp] theorem isi_dict_dct {fq : List Fq} {ks : List Key} {xs : List PV} : isiP fq [.bt "dict"] (.dct ks xs) = some true := isi1 rfl (by decide +kernel)
@[simp] theorem isi_lt_non {fq : List Fq} : isiP fq [.bt "list", .bt "tuple"] .non = some false := isi2 rfl (by decide +kernel)
@[simp] theorem isi_lt_bl {fq : List Fq} {b : Bool} : isiP fq [.bt "list", .bt "tuple"] (.bl b) = some false := isi2 rfl (by decide +kernel)
@[simp] theorem isi_lt_int {fq : List Fq} {i : Int} : isiP fq [.bt "list", .bt "tuple"] (.int i) = some false := isi2 rfl (by decide +kernel)
@[simp] theorem isi_lt_str {fq : List Fq} {x : Str} : isiP fq [.bt "list", .bt "tuple"] (.str x) = some false := isi2 rfl (by decide +kernel)
@[simp] theorem isi_lt_tup {fq : List Fq} {xs : List PV} : isiP fq [.bt "list", .bt "tuple"] (.tup xs) = some true := isi2 rfl (by decide +kernel)
@[simp] theorem isi_lt_lst {fq : List Fq} {xs : List PV} : isiP fq [.bt "list", .bt "tuple"] (.lst xs) = some true := isi2 rfl (by decide +kernel)
@[simp] theorem isi_lt_rdl {fq : List Fq} {xs : List PV} : isiP fq [.bt "list", .bt "tuple"] (.rdl xs) = some true := isi2 rfl (by decide +kernel)
@[simp] theorem isi_lt_dct {fq : List Fq} {ks : List Key} {xs : List PV} : isiP fq [.bt "list", .bt "tuple"] (.dct ks xs) = some false := isi2 rfl (by decide +kernel)
/-! ### comprehensions as plain lists -/
theorem lcLoop_inv {turn : PV → EM (List PV)} {I : En → Prop} {P : PV → Prop} : ∀ {ps : List PV} {e : En}, (∀ p ∈ ps, ∀ e, I e → ∃ rs e', turn p e = .ok rs e' ∧ I e' ∧ rs.length ≤ 1 ∧ ∀ r ∈ rs, P r) → I e →
    ∃ rs e', lcLoop turn ps e = .ok rs e' ∧ I e' ∧ rs.length ≤ ps.length ∧ ∀ r ∈ rs, P r
  | [], e, _, h => ⟨[], e, rfl, h, Nat.le_refl _, fun r hr => by cases hr⟩
  | p :: ps, e, ht, h => by
    obtain ⟨r1, e1, h1, h2, h3, h4⟩ := ht p List.mem_cons_self e h
    obtain ⟨r2, e2, k1, k2, k3, k4⟩ := lcLoop_inv (fun q hq => ht q (List.mem_cons_of_mem _ hq)) h2
    refine ⟨r1 ++ r2, e2, ?_, k2, ?_, fun r hr => ?_⟩
    · rw [lcLoop_cons', h1]
      dsimp only
      rw [k1]
    · rw [List.length_append, List.length_cons]; omega
    · rcases List.mem_append.mp hr with h | h
      · exact h4 r h
      · exact k4 r h
theorem lcLoop_map {turn : PV → EM (List PV)} {f : PV → PV} {e : En} : ∀ {ps : List PV}, (∀ p ∈ ps, turn p e = .ok [f p] e) → lcLoop turn ps e = .ok (ps.map f) e
  | [], _ => rfl
  | p :: ps, h => by
    rw [lcLoop_cons', h p List.mem_cons_self]
    dsimp only
    rw [lcLoop_map fun q hq => h q (List.mem_cons_of_mem _ hq)]
    rfl
theorem lcLoop_filter {turn : PV → EM (List PV)} {f : PV → Option PV} {e : En} : ∀ {ps : List PV}, (∀ p ∈ ps, turn p e = .ok (f p).toList e) → lcLoop turn ps e = .ok (ps.filterMap f) e
  | [], _ => rfl
  | p :: ps, h => by
    rw [lcLoop_cons', h p List.mem_cons_self]
    dsimp only
    rw [lcLoop_filter fun q hq => h q (List.mem_cons_of_mem _ hq)]
    dsimp only
    cases q : f p with
    | none => rw [List.filterMap_cons_none q]; rfl
    | some y => rw [List.filterMap_cons_some q]; rfl
theorem blsOf_map {α : Type} {g : α → Bool} : ∀ {xs : List α}, blsOf (xs.map fun x => PV.bl (g x)) = some (xs.map g)
  | [] => rfl
  | x :: xs => by
    show (blsOf (xs.map fun x => PV.bl (g x))).map (g x :: ·) = _
    rw [blsOf_map]
    rfl
@[simp] theorem blsOf_nil : blsOf [] = some [] := rfl
@[simp] theorem blsOf_cons {b : Bool} {r : List PV} : blsOf (.bl b :: r) = (blsOf r).map (b :: ·) := rfl
@[simp] theorem blsOf_map' {g : PV → Bool} {xs : List PV} : blsOf (xs.map fun x => PV.bl (g x)) = some (xs.map g) := blsOf_map
@[simp] theorem bAll_eq {e : En} {xs : List PV} : bAll [.lst xs] e = match blsOf xs with
  | some bs => .ok (.val (.bl (bs.all id))) e
  | none => .bad := by
  show ((EM.opt (blsOf xs)).bind fun bs => retB (bs.all id)) e = _
  cases blsOf xs <;> rfl
@[simp] theorem bAny_eq {e : En} {xs : List PV} : bAny [.lst xs] e = match blsOf xs with
  | some bs => .ok (.val (.bl (bs.any id))) e
  | none => .bad := by
  show ((EM.opt (blsOf xs)).bind fun bs => retB (bs.any id)) e = _
  cases blsOf xs <;> rfl
theorem bAll_app {e : En} {xs : List PV} {bs : List Bool} (h : blsOf xs = some bs) : bAll [.lst xs] e = .ok (.val (.bl (bs.all id))) e := by
  show ((EM.opt (blsOf xs)).bind fun bs => retB (bs.all id)) e = _
  rw [h]; rfl
theorem bAny_app {e : En} {xs : List PV} {bs : List Bool} (h : blsOf xs = some bs) : bAny [.lst xs] e = .ok (.val (.bl (bs.any id))) e := by
  show ((EM.opt (blsOf xs)).bind fun bs => retB (bs.any id)) e = _
  rw [h]; rfl
@[simp] theorem truP_bl {b : Bool} : truP (.bl b) = some b := rfl
@[simp] theorem bList_t {e : En} {xs : List PV} : bList [.tup xs] e = .ok (.own (.lst xs)) e := rfl
@[simp] theorem bList_l {e : En} {xs : List PV} : bList [.lst xs] e = .ok (.own (.lst xs)) e := rfl
@[simp] theorem bTuple_l {e : En} {xs : List PV} : bTuple [.lst xs] e = .ok (.val (.tup xs)) e := rfl
@[simp] theorem bTuple_t {e : En} {xs : List PV} : bTuple [.tup xs] e = .ok (.val (.tup xs)) e := rfl
/-- plain data -/
def Dt (p : PV) : Prop := ∃ d, p.data = some d
theorem Dt.ty {p : PV} (h : Dt p) : ∃ t, ckN p = some (.bt t) := by
  obtain ⟨d, h⟩ := h
  cases p with
  | cls c => cases h
  | ins c ks xs => cases h
  | non => exact ⟨_, rfl⟩
  | bl _ => exact ⟨_, rfl⟩
  | int _ => exact ⟨_, rfl⟩
  | str _ => exact ⟨_, rfl⟩
  | tup _ => exact ⟨_, rfl⟩
  | lst _ => exact ⟨_, rfl⟩
  | rdl _ => exact ⟨_, rfl⟩
  | dct _ _ => exact ⟨_, rfl⟩
theorem datas_all : ∀ {xs : List PV}, (∀ x ∈ xs, Dt x) ↔ ∃ ds, datas xs = some ds
  | [] => ⟨fun _ => ⟨[], rfl⟩, fun _ x h => by cases h⟩
  | x :: xs => by
    constructor
    · intro h
      obtain ⟨d, hd⟩ := h x List.mem_cons_self
      obtain ⟨ds, hds⟩ := datas_all.mp fun y hy => h y (List.mem_cons_of_mem _ hy)
      exact ⟨d :: ds, by unfold datas; rw [hd, hds]⟩
    · rintro ⟨ds, h⟩ y hy
      unfold datas at h
      cases z1 : x.data with
      | none => rw [z1] at h; cases h
      | some d =>
        cases z2 : datas xs with
        | none => rw [z1, z2] at h; cases h
        | some es =>
          rcases List.mem_cons.mp hy with rfl | hy
          · exact ⟨d, z1⟩
          · exact datas_all.mpr ⟨es, z2⟩ y hy
theorem dt_tup {xs : List PV} : Dt (.tup xs) ↔ ∀ x ∈ xs, Dt x := by
  rw [datas_all]
  unfold Dt
  rw [show PV.data (.tup xs) = (datas xs).map .tuple by unfold PV.data; rfl]
  cases datas xs <;> simp
theorem dt_lst {xs : List PV} : Dt (.lst xs) ↔ ∀ x ∈ xs, Dt x := by
  rw [datas_all]
  unfold Dt
  rw [show PV.data (.lst xs) = (datas xs).map .list by unfold PV.data; rfl]
  cases datas xs <;> simp
theorem dt_int {i : Int} : Dt (.int i) := ⟨.int i, by unfold PV.data; rfl⟩
theorem dt_bl {i : Bool} : Dt (.bl i) := ⟨.bool i, by unfold PV.data; rfl⟩
theorem dt_str {i : Str} : Dt (.str i) := ⟨.str i, by unfold PV.data; rfl⟩
theorem dt_non : Dt .non := ⟨.none, by unfold PV.data; rfl⟩
/-- the text of a number -/
def numS (i : Int) : Str := Str.ofString (toString i)
@[simp] theorem fmtP_int {e : En} {i : Int} : fmtP (.int i) e = if numOk i then .ok (.val (.str (numS i))) e else .bad := by
  show (if numOk i = true then EM.ret (RV.val (PV.str (toString i))) else EM.bad) e = _
  split <;> rfl
@[simp] theorem fmtP_str {e : En} {x : Str} : fmtP (.str x) e = if szOk x.length then .ok (.val (.str x)) e else .bad := by
  show (if szOk x.length = true then EM.ret (RV.val (PV.str x)) else EM.bad) e = _
  split <;> rfl
@[simp] theorem bStr_int {e : En} {i : Int} : bStr [.int i] e = if numOk i then .ok (.val (.str (numS i))) e else .bad := by
  show (if numOk i = true then EM.ret (RV.val (PV.str (toString i))) else EM.bad) e = _
  split <;> rfl
@[simp] theorem bStr_str {e : En} {x : Str} : bStr [.str x] e = .ok (.val (.str x)) e := rfl
@[simp] theorem b_add_s {e : En} {a b : Str} : opB .Add (.str a) (.str b) e = if szOk (a.length + b.length) then .ok (.val (.str (a ++ b))) e else .bad := by
  show (if szOk (a.length + b.length) = true then EM.ret (RV.val (PV.str (a ++ b))) else EM.bad) e = _
  split <;> rfl
@[simp] theorem b_add_t {e : En} {a b : List PV} : opB .Add (.tup a) (.tup b) e = if !a.isEmpty && szOk (a.length + b.length) then .ok (.val (.tup (a ++ b))) e else .bad := by
  show (if (!a.isEmpty && szOk (a.length + b.length)) = true then EM.ret (RV.val (PV.tup (a ++ b))) else EM.bad) e = _
  split <;> rfl
@[simp] theorem opNeg_i {e : En} {i : Int} : opNeg (.int i) e = .ok (.val (.int (-i))) e := rfl
@[simp] theorem c_is_bb {e : En} {a b : Bool} : opC .Is (.bl a) (.bl b) e = .ok (.val (.bl (decide (a = b)))) e := rfl
@[simp] theorem c_isn_bb {e : En} {a b : Bool} : opC .IsNot (.bl a) (.bl b) e = .ok (.val (.bl (!decide (a = b)))) e := rfl
@[simp] theorem c_is_n {e : En} {p : PV} : opC .Is p .non e = .ok (.val (.bl (isNon p))) e := rfl
@[simp] theorem c_isn_n {e : En} {p : PV} : opC .IsNot p .non e = .ok (.val (.bl (!isNon p))) e := rfl
@[simp] theorem isNon_non : isNon .non = true := rfl
@[simp] theorem isNon_tup {xs : List PV} : isNon (.tup xs) = false := rfl
@[simp] theorem isNon_int {i : Int} : isNon (.int i) = false := rfl
@[simp] theorem isNon_str {i : Str} : isNon (.str i) = false := rfl
@[simp] theorem splitP_s {e : En} {a b : Str} : splitP a (.str b) e = if !(b.length == 0) && decide (a.length + 2 ≤ sizeLine) then .ok (.own (.lst (strsP (Txt.split a b)))) e else .bad := by
  show (if (!(b.length == 0) && decide (a.length + 2 ≤ sizeLine)) = true then EM.ret (RV.own (MO.lst (strsP (Txt.split a b)))) else EM.bad) e = _
  split <;> rfl
theorem bRepr_app {e : En} {p : PV} : bRepr [p] e = match p.data with
  | some d => if repOk d then .ok (.val (.str d.shown)) e else .bad
  | none => .bad := by
  show (match p.data with
    | some d => if repOk d then EM.ret (RV.val (PV.str d.shown)) else EM.bad
    | none => EM.bad) e = _
  cases p.data with
  | none => rfl
  | some d => dsimp only; split <;> rfl
theorem repr_bl {e : En} {b : Bool} : bRepr [.bl b] e = .ok (.val (.str (if b then "True" else "False"))) e := by
  cases b <;> rfl
/-! ### texts of numbers -/
theorem strOk_iff {x : Str} : PyData.strOk x = true ↔ ∀ c ∈ TL.tl x, c < 0x110000 := by
  unfold PyData.strOk TL.tl
  rw [Array.all_eq_true']
  simp
theorem strOk_of (s : String) : PyData.strOk (Str.ofString s) = true := by
  rw [strOk_iff, TL.tl_ofString]
  intro c hc
  obtain ⟨d, _, rfl⟩ := List.mem_map.mp hc
  have := d.valid
  unfold UInt32.isValidChar Nat.isValidChar at this
  show d.val.toNat < _
  omega
theorem strOk_app {x y : Str} (hx : PyData.strOk x = true) (hy : PyData.strOk y = true) : PyData.strOk (x ++ y) = true := by
  rw [strOk_iff] at *
  rw [TL.tl_append]
  intro c hc
  rcases List.mem_append.mp hc with h | h
  · exact hx c h
  · exact hy c h
@[simp] theorem emp_app {x : Str} : Str.empty ++ x = x := TL.ext_tl (by rw [TL.tl_append]; rfl)
theorem len_app {x y : Str} : (x ++ y).length = x.length + y.length := by rw [TL.len_tl, TL.len_tl, TL.len_tl, TL.tl_append, List.length_append]
theorem len_num {i : Int} {k : Nat} (h0 : 0 ≤ i) (hk : 0 < k) (h : i < 10 ^ k) : (numS i).length ≤ k := by
  obtain ⟨n, rfl⟩ := Int.eq_ofNat_of_zero_le h0
  unfold numS
  rw [TL.len_tl, TL.tl_num]
  exact TL.numL_len hk (by exact_mod_cast h)
theorem numOk_of {i : Int} (h0 : -(2 ^ 64) < i) (h1 : i < 2 ^ 64) : numOk i = true := by
  refine decide_eq_true ?_
  by_cases hz : i.natAbs = 0
  · rw [hz]; decide
  · have h : i.natAbs < 2 ^ 64 := by omega
    have h3 := (Nat.log2_lt hz (k := 64)).mpr h
    omega
theorem strOk_num {i : Int} : PyData.strOk (numS i) = true := strOk_of _
theorem dot_num {i : Int} (h0 : 0 ≤ i) {c : Nat} (h : c < 48 ∨ 57 < c) : c ∉ TL.tl (numS i) := by
  obtain ⟨n, rfl⟩ := Int.eq_ofNat_of_zero_le h0
  unfold numS
  rw [TL.tl_num]
  exact TL.numL_free h
theorem split2 {x y d : Str} {c : Nat} (hd : TL.tl d = [c]) (hk : d.cps.all (· < 256) = true) (hx : c ∉ TL.tl x) (hy : c ∉ TL.tl y) : Txt.split (x ++ d ++ y) d = [x, y] := by
  have e : x ++ d ++ y = Txt.join d [x, y] := by rw [TL.join_eq]; rfl
  rw [e]
  refine TL.split_join hd hk (by simp) fun p hp => ?_
  rcases List.mem_cons.mp hp with rfl | hp
  · exact hx
  · rcases List.mem_cons.mp hp with rfl | hp
    · exact hy
    · cases hp
theorem repr_ne {b : Bool} {e : En} : opC .NotEq (.str (if b then Str.ofString "True" else Str.ofString "False")) (.str (if b then Str.ofString "True" else Str.ofString "False")) e = .ok (.val (.bl false)) e := by
  have h1 : PyData.strOk (Str.ofString "True") = true := by decide +kernel
  have h2 : PyData.strOk (Str.ofString "False") = true := by decide +kernel
  rw [opNe_app]
  cases b
  · simp [eqP_str h2 h2]
  · simp [eqP_str h1 h1]
theorem str_ne_self {x : Str} (h : PyData.strOk x = true) {e : En} : opC .NotEq (.str x) (.str x) e = .ok (.val (.bl false)) e := by
  rw [opNe_app]
  simp [eqP_str h h]
end QB

namespace QB
open PySem L2
variable {α β : Type} {e : En}
@[simp ↓] theorem embind_app {m : EM α} {f : α → EM β} : EM.bind m f e = match m e with
  | .ok a e1 => f a e1
  | .exc x e1 => .exc x e1
  | .bad => .bad := by
  unfold EM.bind
  cases m e <;> rfl
@[simp] theorem lookM_app {o : Opd} : lookM o e = match o.look e with
  | some p => .ok p e
  | none => .bad := by
  unfold lookM
  cases o.look e <;> rfl
@[simp] theorem emite_app {b : Bool} {m n : EM α} : (if b = true then m else n) e = if b = true then m e else n e := by cases b <;> rfl
@[simp ↓] theorem chainM_app {ma mb mc : EM Opd} {op op' : CmpOp} : chainM ma mb mc op op' e = (EM.bind ma fun a => mb.bind fun b => (lookM a).bind fun x => (lookM b).bind fun y => (boolM (opC op x y)).bind fun k =>
  if k then mc.bind fun d => (lookM b).bind fun y => (lookM d).bind fun z => opC op' y z else EM.ret (.val (.bl false))) e := rfl
/-! ### classes -/
@[simp ↓] theorem calm_app {m : EM α} : EM.calm m e = match m e with
  | .ok a e1 => .ok a e1
  | _ => .bad := rfl
@[simp ↓] theorem twoO_app {ma mb : EM Opd} {f : Opd → Opd → EM α} : twoO ma mb f e = match ma e with
  | .ok a e1 => (match mb e1 with
    | .ok b e2 => f a b e2
    | .exc x e2 => .exc x e2
    | .bad => .bad)
  | .exc x e1 => .exc x e1
  | .bad => .bad := by
  unfold twoO EM.bind
  cases ma e with
  | ok a e1 => dsimp only; cases mb e1 <;> rfl
  | _ => rfl
@[simp ↓] theorem bltO_app {ms : EM (List Opd)} {f : List Opd → EM RV} : bltO ms f e = match ms e with
  | .ok os e1 => f os e1
  | .exc x e1 => .exc x e1
  | .bad => .bad := by
  unfold bltO EM.bind
  cases ms e <;> rfl
/-- a value as an operand -/
@[simp] theorem frzO_pv {p : PV} : frzO (.pv p) e = .ok (.pv p) e := rfl
@[simp] theorem frzs_nil : frzs [] e = .ok [] e := rfl
@[simp] theorem frzs_cons {o : Opd} {os : List Opd} : frzs (o :: os) e = match frzO o e with
  | .ok o' e1 => (match frzs os e1 with
    | .ok os' e2 => .ok (o' :: os') e2
    | .exc x e2 => .exc x e2
    | .bad => .bad)
  | .exc x e1 => .exc x e1
  | .bad => .bad := by
  show (EM.bind (frzO o) fun o' => (frzs os).bind fun os' => EM.ret (o' :: os')) e = _
  simp only [embind_app]
  cases frzO o e with
  | ok a e1 => dsimp only; cases frzs os e1 <;> rfl
  | _ => rfl
@[simp] theorem frzO_slot {i : Nat} : frzO (.slot i) e = match e[i]? with
  | some (some (.val p)) => .ok (.pv p) e
  | some (some (.own o)) => if o.isMut then .ok (.slot i) e else .ok (.pv o.pv) (e.set i (some (.val o.pv)))
  | some (some (.par o)) => .ok (.slot i) e
  | _ => .bad := rfl
theorem findM_one {c m : Str} {E : FnE} {n : Nat} {ks : List Str} {s : Shape} (hn : E.name = m) (hs : E.shapes.find? (fun s => s.n == n && decide (s.ks = ks)) = some s) : findM [⟨c, E⟩] c m n ks = some (⟨c, E⟩, s) := by
  unfold findM
  rw [List.find?_cons_of_pos (by simp [hn])]
  simp only [hs]
theorem dunK_one {c dn : Str} {E : FnE} {os : List Opd} {s : Shape} (h : findM [⟨c, E⟩] c dn os.length [] = some (⟨c, E⟩, s)) : dunK [⟨c, E⟩] dn os c e = match frzs os e with
  | .ok os' e1 => (callK E.sem E.ps.length s os' []).calm e1
  | .exc x e1 => .exc x e1
  | .bad => .bad := by
  unfold dunK
  rw [h]
  dsimp only
  unfold EM.bind
  cases frzs os e <;> rfl
theorem opX_ins {fq : List Fq} {tbl : List MethE} {op : Operator} {a b : Opd} {c : Str} {ks ks' : List Str} {xs ys : List PV} (ha : a.look e = some (.ins c ks xs)) (hb : b.look e = some (.ins c ks' ys)) (hd : dunT fq c = true) : opX fq tbl op a b e = dunK tbl (PySem.dunder op.info.2) [a, b] c e := by
  unfold opX EM.bind
  simp only [lookM_app, ha, hb]
  simp [hd]
theorem ipX_ins {fq : List Fq} {tbl : List MethE} {op : Operator} {a b : Opd} {c : Str} {ks ks' : List Str} {xs ys : List PV} (ha : a.look e = some (.ins c ks xs)) (hb : b.look e = some (.ins c ks' ys)) (hd : dunT fq c = true) (hi : ipN op = true) : ipX fq tbl op a b e = dunK tbl (PySem.dunder op.info.2) [a, b] c e := by
  unfold ipX EM.bind
  simp only [lookM_app, ha, hb]
  simp [hd, hi]
theorem resolve_pvs : ∀ {ps : List PV} {k : Nat}, resolve e k (ps.map .pv) = some (ps.map .val, [])
  | [], _ => rfl
  | p :: ps, k => by
    show (match resolve e (k + 1) (ps.map .pv) with
      | some (ss, bs) => some (Slot.val p :: ss, bs)
      | none => none) = _
    rw [resolve_pvs]
    rfl
/-- a def called with values -/
theorem callE_pvs {F : FSem} {ps : List PV} {r : RV} {e' : En} (h : F (ps.map .val) = .ret r e') : callE F (ps.map .pv) e = .ok r e := by
  unfold callE
  rw [resolve_pvs]
  simp only [h, giveBack]
theorem callE_pvx {F : FSem} {ps : List PV} {x : PX} {e' : En} (h : F (ps.map .val) = .exc x e') : callE F (ps.map .pv) e = .exc x e := by
  unfold callE
  rw [resolve_pvs]
  simp only [h, giveBack]
/-- a new object -/
theorem makeE_pvs {F : FSem} {cn : Str} {ps : List PV} {o : MO} {e' : En} {as : Nat → List Opd} (ha : as e.length = .slot e.length :: ps.map .pv) (h : F (.par (.ins cn [] []) :: ps.map .val) = .ret (.val .non) (some (.par o) :: e')) : makeE F cn as e = .ok (.own o) e := by
  have r : resolve (e ++ [some (.own (.ins cn [] []))]) 0 (.slot e.length :: ps.map .pv) = some (.par (.ins cn [] []) :: ps.map .val, [(0, e.length)]) := by
    unfold resolve
    rw [resolve_pvs]
    simp
  have g : giveBack [(0, e.length)] (some (.par o) :: e') (e ++ [some (.own (.ins cn [] []))]) = some (e ++ [some (.own o)]) := by
    simp [giveBack, Slot.put]
  have c : callE F (.slot e.length :: ps.map .pv) (e ++ [some (.own (.ins cn [] []))]) = .ok (.val .non) (e ++ [some (.own o)]) := by
    unfold callE
    rw [r]
    simp only [h, g]
  have p : popE (e ++ [some (.own o)]) = some (o, e) := by
    simp [popE]
  unfold makeE
  rw [ha, c]
  simp only [p, if_true]
theorem makeE_pvx {F : FSem} {cn : Str} {ps : List PV} {x : PX} {o : MO} {e' : En} {as : Nat → List Opd} (ha : as e.length = .slot e.length :: ps.map .pv) (h : F (.par (.ins cn [] []) :: ps.map .val) = .exc x (some (.par o) :: e')) : makeE F cn as e = .exc x e := by
  have r : resolve (e ++ [some (.own (.ins cn [] []))]) 0 (.slot e.length :: ps.map .pv) = some (.par (.ins cn [] []) :: ps.map .val, [(0, e.length)]) := by
    unfold resolve
    rw [resolve_pvs]
    simp
  have g : giveBack [(0, e.length)] (some (.par o) :: e') (e ++ [some (.own (.ins cn [] []))]) = some (e ++ [some (.own o)]) := by
    simp [giveBack, Slot.put]
  have c : callE F (.slot e.length :: ps.map .pv) (e ++ [some (.own (.ins cn [] []))]) = .exc x (e ++ [some (.own o)]) := by
    unfold callE
    rw [r]
    simp only [h, g]
  have p : popE (e ++ [some (.own o)]) = some (o, e) := by
    simp [popE]
  unfold makeE
  rw [ha, c]
  simp only [p, if_true]
/-! ### targets, walks -/
@[simp] theorem bndTup_t {is : List Nat} {ps : List PV} : bndTup is (.tup ps) e = bndAll is ps e := rfl
@[simp] theorem bndAll_nil : bndAll [] [] e = some e := rfl
@[simp] theorem bndAll_cons {i : Nat} {is : List Nat} {p : PV} {ps : List PV} : bndAll (i :: is) (p :: ps) e = match setSl i (.val p) e with
  | some e1 => bndAll is ps e1
  | none => none := rfl
@[simp ↓] theorem itE_app {m : EM RV} : itE m e = match m e with
  | .ok r e1 => (match enm [r.pv] with
    | some xs => .ok xs e1
    | none => .bad)
  | .exc x e1 => .exc x e1
  | .bad => .bad := by
  unfold itE EM.bind
  cases m e with
  | ok r e1 => dsimp only; cases enm [r.pv] <;> rfl
  | _ => rfl
@[simp ↓] theorem itZ_app {m : EM (List PV)} : itZ m e = match m e with
  | .ok ps e1 => (match zpP ps with
    | some xs => .ok xs e1
    | none => .bad)
  | .exc x e1 => .exc x e1
  | .bad => .bad := by
  unfold itZ EM.bind
  cases m e with
  | ok r e1 => dsimp only; cases zpP r <;> rfl
  | _ => rfl
@[simp] theorem enm_l {xs : List PV} : enm [.lst xs] = some (enumP 0 xs) := rfl
@[simp] theorem enm_t {xs : List PV} : enm [.tup xs] = some (enumP 0 xs) := rfl
@[simp] theorem zpP_ll {xs ys : List PV} : zpP [.lst xs, .lst ys] = some (zipP xs ys) := rfl
@[simp] theorem zpP_tt {xs ys : List PV} : zpP [.tup xs, .tup ys] = some (zipP xs ys) := rfl
@[simp ↓] theorem matM_app {m : EM RV} {cs : List (Str × SM)} : matM m cs e = match m e with
  | .ok r e1 => (match r.pv with
    | .str x => selM cs x e1
    | _ => .bad)
  | .exc x e1 => .xc x e1
  | .bad => .bad := by
  unfold matM thenS
  cases m e <;> rfl
@[simp] theorem selM_nil {x : Str} : selM [] x e = .nx e := rfl
@[simp] theorem selM_cons {x y : Str} {b : SM} {cs : List (Str × SM)} : selM ((y, b) :: cs) x e = match eqP (.str x) (.str y) with
  | some true => b e
  | some false => selM cs x e
  | none => .bad := rfl
theorem bSorted_l {xs : List PV} : bSorted [.lst xs] e = match intsOf xs with
  | some ns => .ok (.own (.lst ((sortI ns).map PV.int))) e
  | none => .bad := by
  show ((EM.opt (intsOf xs)).bind fun ns => EM.ret (RV.own (.lst ((sortI ns).map PV.int)))) e = _
  cases intsOf xs <;> rfl
theorem intsOf_map : ∀ {ns : List Int}, intsOf (ns.map PV.int) = some ns
  | [] => rfl
  | n :: ns => by
    show (intsOf (ns.map PV.int)).map (n :: ·) = _
    rw [intsOf_map]
    rfl
end QB

namespace QB
open PySem L2
section
variable {e : En}
@[simp ↓] theorem dsM_app {ks : List Str} {ms : EM (List PV)} : dsM ks ms e = match ms e with
  | .ok ps e1 => if decide (ps.length = ks.length ∧ ks.Nodup ∧ ks.length ≤ 15) then .ok (.val (.dct (ks.map .inr) ps)) e1 else .bad
  | .exc x e1 => .exc x e1
  | .bad => .bad := by
  unfold dsM EM.bind
  cases ms e with
  | ok ps e1 => dsimp only; split <;> rfl
  | _ => rfl
@[simp ↓] theorem dgM_app {m n : EM Opd} : dgM m n e = two m n (fun x y => retP (dixP x y)) e := rfl
@[simp ↓] theorem dg2M_app {mo ma : EM Opd} {mb : EM RV} : dg2M mo ma mb e = match mo e with
  | .ok o e1 => (match o.look e1 with
    | some (.dct _ _) => (match ma e1 with
      | .ok a e2 => (match mb e2 with
        | .ok r e3 => (match o.look e3 with
          | some x => (match a.look e3 with
            | some y => dgetP x y r e3
            | none => .bad)
          | none => .bad)
        | .exc x e3 => .exc x e3
        | .bad => .bad)
      | .exc x e2 => .exc x e2
      | .bad => .bad)
    | _ => .bad)
  | .exc x e1 => .exc x e1
  | .bad => .bad := by
  unfold dg2M EM.bind isDc lookM EM.bind
  cases mo e with
  | ok o e1 =>
    dsimp only
    cases h : o.look e1 with
    | none => rfl
    | some x =>
      cases x with
      | dct ks xs =>
        dsimp only [EM.ret]
        cases ma e1 with
        | ok a e2 =>
          dsimp only
          cases mb e2 with
          | ok r e3 =>
            dsimp only
            cases o.look e3 with
            | none => rfl
            | some x => dsimp only; cases a.look e3 <;> rfl
          | _ => rfl
        | _ => rfl
      | _ => rfl
  | _ => rfl
@[simp] theorem dixP_s {ks : List Key} {xs : List PV} {k : Str} : dixP (.dct ks xs) (.str k) = dval ks xs (.inr k) := rfl
@[simp] theorem dgetP_s {ks : List Key} {xs : List PV} {k : Str} {r : RV} : dgetP (.dct ks xs) (.str k) r e = match dval ks xs (.inr k) with
  | some p => .ok (.val p) e
  | none => .ok (.val r.pv) e := by
  unfold dgetP dkP
  dsimp only
  cases dval ks xs (.inr k) <;> rfl
@[simp] theorem dval_cons {k : Key} {ks : List Key} {x : PV} {xs : List PV} {j : Key} : dval (k :: ks) (x :: xs) j = if k = j then some x else dval ks xs j := rfl
@[simp] theorem dval_nil {xs : List PV} {j : Key} : dval [] xs j = none := by cases xs <;> rfl
end
end QB

namespace PG
open PySem L2 QB
def sh__law_box_0 : Shape := ⟨2, [], [.pos 0, .pos 1], []⟩
def m__law_box : SM := (seqM (asgM 2 (two (opdM (two (opdM (EM.ret (.val (.int 8837)))) (slotM 1) (opB .Mult))) (opdM (EM.ret (.val (.int 41)))) (opB .Add))) (seqM (thenS (boolM (two (slotM 1) (opdM (bltM (opdsCons (slotM 0) opdsNil) bLen)) (opC .Lt))) fun k => if k then (asgM 2 (bltM (opdsCons (opdM (bltM (opdsCons (opdM (ixM (slotM 0) (slotM 1))) opdsNil) bInt')) opdsNil) bAbs)) else (thenS (boolM (two (opdM (bltM (opdsCons (slotM 0) opdsNil) bLen)) (opdM (EM.ret (.val (.int 0)))) (opC .Gt))) fun k => if k then (asgM 2 (two (slotM 2) (opdM (two (opdM (two (opdM (bltM (opdsCons (opdM (bltM (opdsCons (opdM (bltM (opdsCons (opdM (ixM (slotM 0) (opdM (two (opdM (bltM (opdsCons (slotM 1) opdsNil) bInt')) (opdM (bltM (opdsCons (slotM 0) opdsNil) bLen)) (opB .Mod))))) opdsNil) bInt')) opdsNil) bAbs)) opdsNil) bInt')) (opdM (EM.ret (.val (.int 2147483629)))) (opB .Mod))) (opdM (EM.ret (.val (.int 50021)))) (opB .Mult))) (opB .Add))) else skipM)) (seqM (asgM 3 (iteM (boolM (two (slotM 2) (opdM (two (opdM (EM.ret (.val (.int 10)))) (opdM (EM.ret (.val (.int 18)))) (opB .Pow))) (opC .GtE))) (getM 2) (EM.ret (.val (.int 0))))) (retM (lstM (valsCons (getM 3) (valsCons (two (opdM (two (opdM (bltM (opdsCons (opdM (two (opdM (two (opdM (two (opdM (bltM (opdsCons (slotM 2) opdsNil) bInt')) (opdM (EM.ret (.val (.int 2147483629)))) (opB .Mod))) (opdM (EM.ret (.val (.int 39373)))) (opB .Mult))) (opdM (two (opdM (EM.ret (.val (.int 30347)))) (slotM 1) (opB .Mult))) (opB .Add))) opdsNil) bInt')) (opdM (EM.ret (.val (.int 2147483629)))) (opB .Mod))) (opdM (EM.ret (.val (.int 1)))) (opB .Add)) (valsCons (EM.ret (.val (.int 0))) valsNil))))))))
def sem__law_box : FSem := bodyF 4 m__law_box
def E__law_box : FnE := ⟨"_law_box", ["_law_script", "_law_k"], [], sem__law_box, [sh__law_box_0]⟩
def sh__law_take_0 : Shape := ⟨2, [], [.pos 0, .pos 1], []⟩
def m__law_take : SM := (seqM (thenS (boolM (two (opdM (ixM (slotM 0) (opdM (EM.ret (.val (.int 0)))))) (opdM (EM.ret (.val (.int 0)))) (opC .Gt))) fun k => if k then (seqM (asgM 3 (two (opdM (bltM (opdsCons (opdM (ixM (slotM 0) (opdM (EM.ret (.val (.int 0)))))) opdsNil) bInt')) (slotM 1) (opB .Mod))) (seqM (setIxM 0 (opdM (EM.ret (.val (.int 0)))) (two (opdM (ixM (slotM 0) (opdM (EM.ret (.val (.int 0)))))) (slotM 1) (opB .FloorDiv))) (retM (getM 3)))) else skipM) (seqM (setIxM 0 (opdM (EM.ret (.val (.int 2)))) (two (opdM (ixM (slotM 0) (opdM (EM.ret (.val (.int 2)))))) (opdM (EM.ret (.val (.int 1)))) (opB .Add))) (seqM (asgM 2 (two (opdM (bltM (opdsCons (opdM (two (opdM (two (opdM (ixM (slotM 0) (opdM (EM.ret (.val (.int 1)))))) (opdM (two (opdM (EM.ret (.val (.int 104729)))) (opdM (ixM (slotM 0) (opdM (EM.ret (.val (.int 2)))))) (opB .Mult))) (opB .Add))) (opdM (EM.ret (.val (.int 48271)))) (opB .Mult))) opdsNil) bInt')) (opdM (EM.ret (.val (.int 2147483647)))) (opB .Mod))) (seqM (setIxM 0 (opdM (EM.ret (.val (.int 1)))) (two (opdM (two (opdM (bltM (opdsCons (opdM (two (opdM (two (slotM 2) (opdM (EM.ret (.val (.int 69623)))) (opB .Mult))) (opdM (EM.ret (.val (.int 20011)))) (opB .Add))) opdsNil) bInt')) (opdM (EM.ret (.val (.int 2147483629)))) (opB .Mod))) (opdM (EM.ret (.val (.int 1)))) (opB .Add))) (retM (two (opdM (bltM (opdsCons (opdM (two (opdM (two (opdM (two (slotM 2) (opdM (EM.ret (.val (.int 2147483647)))) (opB .Mult))) (opdM (ixM (slotM 0) (opdM (EM.ret (.val (.int 1)))))) (opB .Add))) (opdM (EM.ret (.val (.int 8191)))) (opB .FloorDiv))) opdsNil) bInt')) (slotM 1) (opB .Mod)))))))
def sem__law_take : FSem := bodyF 4 m__law_take
def E__law_take : FnE := ⟨"_law_take", ["_law_box_here", "_law_many"], [true], sem__law_take, [sh__law_take_0]⟩
def sh__law_pick_0 : Shape := ⟨2, [], [.pos 0, .pos 1], []⟩
def m__law_pick : SM := (retM (ixM (slotM 1) (opdM (callM sem__law_take 2 sh__law_take_0 (opdsCons (slotM 0) (opdsCons (opdM (bltM (opdsCons (slotM 1) opdsNil) bLen)) opdsNil)) opdsNil))))
def sem__law_pick : FSem := bodyF 2 m__law_pick
def E__law_pick : FnE := ⟨"_law_pick", ["_law_box_here", "_law_some"], [true], sem__law_pick, [sh__law_pick_0]⟩
def sh__law_any_0 : Shape := ⟨2, [], [.pos 0, .pos 1], []⟩
def e__law_any_0 (F : FSem) : EM RV := (callM F 2 sh__law_any_0 (opdsCons (slotM 0) (opdsCons (opdM (two (slotM 1) (opdM (EM.ret (.val (.int 1)))) (opB .Sub))) opdsNil)) opdsNil)
def m__law_any (F : FSem) : SM := (seqM (asgM 2 (callM sem__law_take 2 sh__law_take_0 (opdsCons (slotM 0) (opdsCons (opdM (EM.ret (.val (.int 9)))) opdsNil)) opdsNil)) (seqM (thenS (orT (boolM (two (slotM 2) (opdM (EM.ret (.val (.int 5)))) (opC .Lt))) (boolM (two (slotM 1) (opdM (EM.ret (.val (.int 0)))) (opC .Eq)))) fun k => if k then (seqM (asgM 4 (lstM (valsCons (EM.ret (.val .non)) (valsCons (EM.ret (.val (.bl true))) (valsCons (EM.ret (.val (.bl false))) (valsCons (EM.ret (.val (.int 0))) (valsCons (EM.ret (.val (.int 1))) (valsCons (EM.ret (.val (.int 7))) (valsCons (one (opdM (EM.ret (.val (.int 1)))) opNeg) (valsCons (EM.ret (.val (.str ""))) (valsCons (EM.ret (.val (.str "a"))) (valsCons (EM.ret (.val (.str "1.2"))) (valsCons (two (opdM (EM.ret (.val (.int 10)))) (opdM (EM.ret (.val (.int 18)))) (opB .Pow)) (valsCons (tupM valsNil) (valsCons (lstM valsNil) (valsCons (tupM (valsCons (EM.ret (.val (.int 1))) (valsCons (EM.ret (.val (.int 0))) valsNil))) (valsCons (tupM (valsCons (EM.ret (.val (.int 2))) (valsCons (EM.ret (.val (.int 5))) valsNil))) (valsCons (EM.ret (.val (.str "pin"))) (valsCons (tupM (valsCons (EM.ret (.val (.int 1))) valsNil)) (valsCons (tupM (valsCons (EM.ret (.val (.int 0))) (valsCons (EM.ret (.val (.int 1))) valsNil))) valsNil)))))))))))))))))))) (retM (callM sem__law_pick 2 sh__law_pick_0 (opdsCons (slotM 0) (opdsCons (opdM (getM 4)) opdsNil)) opdsNil))) else skipM) (seqM (asgM 3 (lcM (itA rng1 (opdsCons (opdM (callM sem__law_take 2 sh__law_take_0 (opdsCons (slotM 0) (opdsCons (opdM (EM.ret (.val (.int 4)))) opdsNil)) opdsNil)) opdsNil)) (bndNm 5) (EM.ret true) [5] (eltM (e__law_any_0 F)))) (retM (iteM (boolM (two (slotM 2) (opdM (EM.ret (.val (.int 7)))) (opC .Lt))) (getM 3) (bltM (opdsCons (slotM 3) opdsNil) bTuple))))))
def sem__law_any : Nat → FSem
  | 0 => badF
  | n + 1 => bodyF 6 (m__law_any (sem__law_any n))
def E__law_any (F : FSem) : FnE := ⟨"_law_any", ["_law_box_here", "_law_deep"], [true], F, [sh__law_any_0]⟩
def sh__law_release_0 : Shape := ⟨1, [], [.pos 0], []⟩
def m__law_release : SM := (seqM (asgM 1 (callM sem__law_take 2 sh__law_take_0 (opdsCons (slotM 0) (opdsCons (opdM (EM.ret (.val (.int 4)))) opdsNil)) opdsNil)) (seqM (thenS (boolM (two (slotM 1) (opdM (EM.ret (.val (.int 0)))) (opC .Eq))) fun k => if k then (retM (tupM (valsCons (two (opdM (EM.ret (.val (.int 1)))) (opdM (callM sem__law_take 2 sh__law_take_0 (opdsCons (slotM 0) (opdsCons (opdM (EM.ret (.val (.int 3)))) opdsNil)) opdsNil)) (opB .Add)) (valsCons (EM.ret (.val (.int 0))) valsNil)))) else skipM) (seqM (thenS (boolM (two (slotM 1) (opdM (EM.ret (.val (.int 1)))) (opC .Eq))) fun k => if k then (retM (tupM (valsCons (two (opdM (EM.ret (.val (.int 1)))) (opdM (callM sem__law_take 2 sh__law_take_0 (opdsCons (slotM 0) (opdsCons (opdM (EM.ret (.val (.int 98)))) opdsNil)) opdsNil)) (opB .Add)) (valsCons (callM sem__law_take 2 sh__law_take_0 (opdsCons (slotM 0) (opdsCons (opdM (EM.ret (.val (.int 99)))) opdsNil)) opdsNil) valsNil)))) else skipM) (retM (tupM (valsCons (two (opdM (EM.ret (.val (.int 1)))) (opdM (callM sem__law_take 2 sh__law_take_0 (opdsCons (slotM 0) (opdsCons (opdM (EM.ret (.val (.int 3)))) opdsNil)) opdsNil)) (opB .Add)) (valsCons (callM sem__law_take 2 sh__law_take_0 (opdsCons (slotM 0) (opdsCons (opdM (EM.ret (.val (.int 4)))) opdsNil)) opdsNil) valsNil)))))))
def sem__law_release : FSem := bodyF 2 m__law_release
def E__law_release : FnE := ⟨"_law_release", ["_law_box_here"], [true], sem__law_release, [sh__law_release_0]⟩
def sh__law_any_2_0 : Shape := ⟨2, [], [.pos 0, .pos 1], []⟩
def e__law_any_2_0 (F : FSem) : EM RV := (callM F 2 sh__law_any_2_0 (opdsCons (slotM 0) (opdsCons (opdM (two (slotM 1) (opdM (EM.ret (.val (.int 1)))) (opB .Sub))) opdsNil)) opdsNil)
def m__law_any_2 (F : FSem) : SM := (seqM (asgM 2 (callM sem__law_take 2 sh__law_take_0 (opdsCons (slotM 0) (opdsCons (opdM (EM.ret (.val (.int 9)))) opdsNil)) opdsNil)) (seqM (thenS (orT (boolM (two (slotM 2) (opdM (EM.ret (.val (.int 5)))) (opC .Lt))) (boolM (two (slotM 1) (opdM (EM.ret (.val (.int 0)))) (opC .Eq)))) fun k => if k then (seqM (asgM 4 (lstM (valsCons (EM.ret (.val .non)) (valsCons (EM.ret (.val (.bl true))) (valsCons (EM.ret (.val (.bl false))) (valsCons (EM.ret (.val (.int 0))) (valsCons (EM.ret (.val (.int 1))) (valsCons (EM.ret (.val (.int 7))) (valsCons (one (opdM (EM.ret (.val (.int 1)))) opNeg) (valsCons (EM.ret (.val (.str ""))) (valsCons (EM.ret (.val (.str "a"))) (valsCons (EM.ret (.val (.str "1.2"))) (valsCons (EM.ret (.val (.int 98))) (valsCons (tupM valsNil) (valsCons (lstM valsNil) (valsCons (tupM (valsCons (EM.ret (.val (.int 1))) (valsCons (EM.ret (.val (.int 0))) valsNil))) (valsCons (tupM (valsCons (EM.ret (.val (.int 2))) (valsCons (EM.ret (.val (.int 5))) valsNil))) (valsCons (EM.ret (.val (.str "pin"))) (valsCons (tupM (valsCons (EM.ret (.val (.int 1))) valsNil)) (valsCons (tupM (valsCons (EM.ret (.val (.int 0))) (valsCons (EM.ret (.val (.int 1))) valsNil))) valsNil)))))))))))))))))))) (retM (callM sem__law_pick 2 sh__law_pick_0 (opdsCons (slotM 0) (opdsCons (opdM (getM 4)) opdsNil)) opdsNil))) else skipM) (seqM (asgM 3 (lcM (itA rng1 (opdsCons (opdM (callM sem__law_take 2 sh__law_take_0 (opdsCons (slotM 0) (opdsCons (opdM (EM.ret (.val (.int 4)))) opdsNil)) opdsNil)) opdsNil)) (bndNm 5) (EM.ret true) [5] (eltM (e__law_any_2_0 F)))) (retM (iteM (boolM (two (slotM 2) (opdM (EM.ret (.val (.int 7)))) (opC .Lt))) (getM 3) (bltM (opdsCons (slotM 3) opdsNil) bTuple))))))
def sem__law_any_2 : Nat → FSem
  | 0 => badF
  | n + 1 => bodyF 6 (m__law_any_2 (sem__law_any_2 n))
def E__law_any_2 (F : FSem) : FnE := ⟨"_law_any", ["_law_box_here", "_law_deep"], [true], F, [sh__law_any_2_0]⟩
def sh__law_box_2_0 : Shape := ⟨2, [], [.pos 0, .pos 1], []⟩
def m__law_box_2 : SM := (seqM (asgM 2 (two (opdM (two (opdM (EM.ret (.val (.int 6359)))) (slotM 1) (opB .Mult))) (opdM (EM.ret (.val (.int 43)))) (opB .Add))) (seqM (thenS (boolM (two (slotM 1) (opdM (bltM (opdsCons (slotM 0) opdsNil) bLen)) (opC .Lt))) fun k => if k then (asgM 2 (bltM (opdsCons (opdM (bltM (opdsCons (opdM (ixM (slotM 0) (slotM 1))) opdsNil) bInt')) opdsNil) bAbs)) else (thenS (boolM (two (opdM (bltM (opdsCons (slotM 0) opdsNil) bLen)) (opdM (EM.ret (.val (.int 0)))) (opC .Gt))) fun k => if k then (asgM 2 (two (slotM 2) (opdM (two (opdM (two (opdM (bltM (opdsCons (opdM (ixM (slotM 0) (opdM (two (opdM (bltM (opdsCons (slotM 1) opdsNil) bInt')) (opdM (bltM (opdsCons (slotM 0) opdsNil) bLen)) (opB .Mod))))) opdsNil) bInt')) (opdM (EM.ret (.val (.int 2147483629)))) (opB .Mod))) (opdM (EM.ret (.val (.int 69497)))) (opB .Mult))) (opB .Add))) else skipM)) (seqM (asgM 3 (two (opdM (two (opdM (bltM (opdsCons (opdM (two (opdM (two (opdM (two (opdM (two (opdM (bltM (opdsCons (slotM 2) opdsNil) bInt')) (opdM (EM.ret (.val (.int 2147483629)))) (opB .Mod))) (opdM (EM.ret (.val (.int 48271)))) (opB .Mult))) (opdM (two (opdM (EM.ret (.val (.int 40829)))) (slotM 1) (opB .Mult))) (opB .Add))) (opdM (EM.ret (.val (.int 5)))) (opB .Add))) opdsNil) bInt')) (opdM (EM.ret (.val (.int 2147483629)))) (opB .Mod))) (opdM (EM.ret (.val (.int 1)))) (opB .Add))) (retM (lstM (valsCons (ixM (opdM (lstM (valsCons (EM.ret (.val (.int 0))) (valsCons (getM 2) valsNil)))) (opdM (bltM (opdsCons (opdM (two (slotM 2) (opdM (two (opdM (EM.ret (.val (.int 10)))) (opdM (EM.ret (.val (.int 18)))) (opB .Pow))) (opC .GtE))) opdsNil) bInt'))) (valsCons (getM 3) (valsCons (EM.ret (.val (.int 0))) valsNil))))))))
def sem__law_box_2 : FSem := bodyF 4 m__law_box_2
def E__law_box_2 : FnE := ⟨"_law_box", ["_law_script", "_law_k"], [], sem__law_box_2, [sh__law_box_2_0]⟩
def sh__law_take_2_0 : Shape := ⟨2, [], [.pos 0, .pos 1], []⟩
def m__law_take_2 : SM := (seqM (thenS (boolM (two (opdM (ixM (slotM 0) (opdM (EM.ret (.val (.int 0)))))) (opdM (EM.ret (.val (.int 0)))) (opC .Gt))) fun k => if k then (seqM (asgM 3 (two (opdM (bltM (opdsCons (opdM (ixM (slotM 0) (opdM (EM.ret (.val (.int 0)))))) opdsNil) bInt')) (slotM 1) (opB .Mod))) (seqM (setIxM 0 (opdM (EM.ret (.val (.int 0)))) (two (opdM (ixM (slotM 0) (opdM (EM.ret (.val (.int 0)))))) (slotM 1) (opB .FloorDiv))) (retM (getM 3)))) else skipM) (seqM (setIxM 0 (opdM (EM.ret (.val (.int 2)))) (two (opdM (ixM (slotM 0) (opdM (EM.ret (.val (.int 2)))))) (opdM (EM.ret (.val (.int 1)))) (opB .Add))) (seqM (asgM 2 (two (opdM (bltM (opdsCons (opdM (two (opdM (two (opdM (ixM (slotM 0) (opdM (EM.ret (.val (.int 1)))))) (opdM (two (opdM (EM.ret (.val (.int 104759)))) (opdM (ixM (slotM 0) (opdM (EM.ret (.val (.int 2)))))) (opB .Mult))) (opB .Add))) (opdM (EM.ret (.val (.int 69653)))) (opB .Mult))) opdsNil) bInt')) (opdM (EM.ret (.val (.int 2147483647)))) (opB .Mod))) (seqM (setIxM 0 (opdM (EM.ret (.val (.int 1)))) (two (opdM (two (opdM (bltM (opdsCons (opdM (two (opdM (two (slotM 2) (opdM (EM.ret (.val (.int 48281)))) (opB .Mult))) (opdM (EM.ret (.val (.int 30133)))) (opB .Add))) opdsNil) bInt')) (opdM (EM.ret (.val (.int 2147483629)))) (opB .Mod))) (opdM (EM.ret (.val (.int 1)))) (opB .Add))) (retM (two (opdM (bltM (opdsCons (opdM (two (opdM (two (opdM (two (slotM 2) (opdM (EM.ret (.val (.int 2147483647)))) (opB .Mult))) (opdM (ixM (slotM 0) (opdM (EM.ret (.val (.int 1)))))) (opB .Add))) (opdM (EM.ret (.val (.int 8191)))) (opB .FloorDiv))) opdsNil) bInt')) (slotM 1) (opB .Mod)))))))
def sem__law_take_2 : FSem := bodyF 4 m__law_take_2
def E__law_take_2 : FnE := ⟨"_law_take", ["_law_box_here", "_law_many"], [true], sem__law_take_2, [sh__law_take_2_0]⟩
def sh__law_pick_2_0 : Shape := ⟨2, [], [.pos 0, .pos 1], []⟩
def m__law_pick_2 : SM := (retM (ixM (slotM 1) (opdM (callM sem__law_take_2 2 sh__law_take_2_0 (opdsCons (slotM 0) (opdsCons (opdM (bltM (opdsCons (slotM 1) opdsNil) bLen)) opdsNil)) opdsNil))))
def sem__law_pick_2 : FSem := bodyF 2 m__law_pick_2
def E__law_pick_2 : FnE := ⟨"_law_pick", ["_law_box_here", "_law_some"], [true], sem__law_pick_2, [sh__law_pick_2_0]⟩
def sh__law_release_2_0 : Shape := ⟨1, [], [.pos 0], []⟩
def m__law_release_2 : SM := (seqM (thenS (boolM (two (opdM (callM sem__law_take_2 2 sh__law_take_2_0 (opdsCons (slotM 0) (opdsCons (opdM (EM.ret (.val (.int 8)))) opdsNil)) opdsNil)) (opdM (EM.ret (.val (.int 0)))) (opC .Eq))) fun k => if k then (retM (tupM (valsCons (two (opdM (EM.ret (.val (.int 1)))) (opdM (callM sem__law_take_2 2 sh__law_take_2_0 (opdsCons (slotM 0) (opdsCons (opdM (EM.ret (.val (.int 90)))) opdsNil)) opdsNil)) (opB .Add)) (valsCons (callM sem__law_take_2 2 sh__law_take_2_0 (opdsCons (slotM 0) (opdsCons (opdM (EM.ret (.val (.int 90)))) opdsNil)) opdsNil) valsNil)))) else skipM) (retM (tupM (valsCons (two (opdM (EM.ret (.val (.int 1)))) (opdM (callM sem__law_take_2 2 sh__law_take_2_0 (opdsCons (slotM 0) (opdsCons (opdM (EM.ret (.val (.int 4)))) opdsNil)) opdsNil)) (opB .Add)) (valsCons (callM sem__law_take_2 2 sh__law_take_2_0 (opdsCons (slotM 0) (opdsCons (opdM (EM.ret (.val (.int 5)))) opdsNil)) opdsNil) valsNil)))))
def sem__law_release_2 : FSem := bodyF 1 m__law_release_2
def E__law_release_2 : FnE := ⟨"_law_release", ["_law_box_here"], [true], sem__law_release_2, [sh__law_release_2_0]⟩
def sh__law_take_3_0 : Shape := ⟨2, [], [.pos 0, .pos 1], []⟩
def m__law_take_3 : SM := (seqM (thenS (boolM (two (opdM (ixM (slotM 0) (opdM (EM.ret (.val (.int 0)))))) (opdM (EM.ret (.val (.int 0)))) (opC .Gt))) fun k => if k then (seqM (asgM 3 (two (opdM (bltM (opdsCons (opdM (ixM (slotM 0) (opdM (EM.ret (.val (.int 0)))))) opdsNil) bInt')) (slotM 1) (opB .Mod))) (seqM (setIxM 0 (opdM (EM.ret (.val (.int 0)))) (two (opdM (ixM (slotM 0) (opdM (EM.ret (.val (.int 0)))))) (slotM 1) (opB .FloorDiv))) (retM (getM 3)))) else skipM) (seqM (setIxM 0 (opdM (EM.ret (.val (.int 2)))) (two (opdM (ixM (slotM 0) (opdM (EM.ret (.val (.int 2)))))) (opdM (EM.ret (.val (.int 1)))) (opB .Add))) (seqM (asgM 2 (two (opdM (bltM (opdsCons (opdM (two (opdM (two (opdM (ixM (slotM 0) (opdM (EM.ret (.val (.int 1)))))) (opdM (two (opdM (EM.ret (.val (.int 104759)))) (opdM (ixM (slotM 0) (opdM (EM.ret (.val (.int 2)))))) (opB .Mult))) (opB .Add))) (opdM (EM.ret (.val (.int 69653)))) (opB .Mult))) opdsNil) bInt')) (opdM (EM.ret (.val (.int 2147483647)))) (opB .Mod))) (seqM (setIxM 0 (opdM (EM.ret (.val (.int 1)))) (two (opdM (two (opdM (bltM (opdsCons (opdM (two (opdM (two (slotM 2) (opdM (EM.ret (.val (.int 48281)))) (opB .Mult))) (opdM (EM.ret (.val (.int 30133)))) (opB .Add))) opdsNil) bInt')) (opdM (EM.ret (.val (.int 2147483629)))) (opB .Mod))) (opdM (EM.ret (.val (.int 1)))) (opB .Add))) (retM (two (opdM (bltM (opdsCons (opdM (two (opdM (two (opdM (two (slotM 2) (opdM (EM.ret (.val (.int 2147483647)))) (opB .Mult))) (opdM (ixM (slotM 0) (opdM (EM.ret (.val (.int 1)))))) (opB .Add))) (opdM (EM.ret (.val (.int 8191)))) (opB .FloorDiv))) opdsNil) bInt')) (slotM 1) (opB .Mod)))))))
def sem__law_take_3 : FSem := bodyF 4 m__law_take_3
def E__law_take_3 : FnE := ⟨"_law_take", ["_law_box_here", "_law_many"], [true], sem__law_take_3, [sh__law_take_3_0]⟩
def sh__law_pick_3_0 : Shape := ⟨2, [], [.pos 0, .pos 1], []⟩
def m__law_pick_3 : SM := (retM (ixM (slotM 1) (opdM (callM sem__law_take_3 2 sh__law_take_3_0 (opdsCons (slotM 0) (opdsCons (opdM (bltM (opdsCons (slotM 1) opdsNil) bLen)) opdsNil)) opdsNil))))
def sem__law_pick_3 : FSem := bodyF 2 m__law_pick_3
def E__law_pick_3 : FnE := ⟨"_law_pick", ["_law_box_here", "_law_some"], [true], sem__law_pick_3, [sh__law_pick_3_0]⟩
def sh__law_release_3_0 : Shape := ⟨1, [], [.pos 0], []⟩
def m__law_release_3 : SM := (seqM (thenS (boolM (two (opdM (callM sem__law_take_3 2 sh__law_take_3_0 (opdsCons (slotM 0) (opdsCons (opdM (EM.ret (.val (.int 8)))) opdsNil)) opdsNil)) (opdM (EM.ret (.val (.int 0)))) (opC .Eq))) fun k => if k then (retM (tupM (valsCons (two (opdM (EM.ret (.val (.int 1)))) (opdM (callM sem__law_take_3 2 sh__law_take_3_0 (opdsCons (slotM 0) (opdsCons (opdM (EM.ret (.val (.int 90)))) opdsNil)) opdsNil)) (opB .Add)) (valsCons (callM sem__law_take_3 2 sh__law_take_3_0 (opdsCons (slotM 0) (opdsCons (opdM (EM.ret (.val (.int 90)))) opdsNil)) opdsNil) valsNil)))) else skipM) (retM (tupM (valsCons (two (opdM (EM.ret (.val (.int 1)))) (opdM (callM sem__law_take_3 2 sh__law_take_3_0 (opdsCons (slotM 0) (opdsCons (opdM (EM.ret (.val (.int 4)))) opdsNil)) opdsNil)) (opB .Add)) (valsCons (callM sem__law_take_3 2 sh__law_take_3_0 (opdsCons (slotM 0) (opdsCons (opdM (EM.ret (.val (.int 5)))) opdsNil)) opdsNil) valsNil)))))
def sem__law_release_3 : FSem := bodyF 1 m__law_release_3
def E__law_release_3 : FnE := ⟨"_law_release", ["_law_box_here"], [true], sem__law_release_3, [sh__law_release_3_0]⟩
def sh__law_box_3_0 : Shape := ⟨2, [], [.pos 0, .pos 1], []⟩
def m__law_box_3 : SM := (seqM (asgM 2 (two (opdM (two (opdM (EM.ret (.val (.int 7013)))) (slotM 1) (opB .Mult))) (opdM (EM.ret (.val (.int 61)))) (opB .Add))) (seqM (thenS (boolM (two (slotM 1) (opdM (bltM (opdsCons (slotM 0) opdsNil) bLen)) (opC .Lt))) fun k => if k then (asgM 2 (bltM (opdsCons (opdM (ixM (slotM 0) (slotM 1))) opdsNil) bAbs)) else (thenS (boolM (two (opdM (bltM (opdsCons (slotM 0) opdsNil) bLen)) (opdM (EM.ret (.val (.int 0)))) (opC .Gt))) fun k => if k then (asgM 2 (two (slotM 2) (opdM (two (opdM (two (opdM (bltM (opdsCons (opdM (bltM (opdsCons (opdM (bltM (opdsCons (opdM (ixM (slotM 0) (opdM (two (opdM (bltM (opdsCons (slotM 1) opdsNil) bInt')) (opdM (bltM (opdsCons (slotM 0) opdsNil) bLen)) (opB .Mod))))) opdsNil) bInt')) opdsNil) bAbs)) opdsNil) bInt')) (opdM (EM.ret (.val (.int 2147483629)))) (opB .Mod))) (opdM (EM.ret (.val (.int 69389)))) (opB .Mult))) (opB .Add))) else skipM)) (seqM (asgM 3 (two (opdM (two (opdM (bltM (opdsCons (opdM (two (opdM (two (opdM (two (opdM (bltM (opdsCons (slotM 2) opdsNil) bInt')) (opdM (EM.ret (.val (.int 2147483629)))) (opB .Mod))) (opdM (EM.ret (.val (.int 48271)))) (opB .Mult))) (opdM (two (opdM (EM.ret (.val (.int 40709)))) (slotM 1) (opB .Mult))) (opB .Add))) opdsNil) bInt')) (opdM (EM.ret (.val (.int 2147483629)))) (opB .Mod))) (opdM (EM.ret (.val (.int 1)))) (opB .Add))) (retM (lstM (valsCons (ixM (opdM (lstM (valsCons (EM.ret (.val (.int 0))) (valsCons (getM 2) valsNil)))) (opdM (bltM (opdsCons (opdM (two (slotM 2) (opdM (two (opdM (EM.ret (.val (.int 10)))) (opdM (EM.ret (.val (.int 18)))) (opB .Pow))) (opC .GtE))) opdsNil) bInt'))) (valsCons (getM 3) (valsCons (EM.ret (.val (.int 0))) valsNil))))))))
def sem__law_box_3 : FSem := bodyF 4 m__law_box_3
def E__law_box_3 : FnE := ⟨"_law_box", ["_law_script", "_law_k"], [], sem__law_box_3, [sh__law_box_3_0]⟩
def sh__law_take_4_0 : Shape := ⟨2, [], [.pos 0, .pos 1], []⟩
def m__law_take_4 : SM := (seqM (thenS (boolM (two (opdM (ixM (slotM 0) (opdM (EM.ret (.val (.int 0)))))) (opdM (EM.ret (.val (.int 0)))) (opC .Gt))) fun k => if k then (seqM (asgM 3 (two (opdM (bltM (opdsCons (opdM (ixM (slotM 0) (opdM (EM.ret (.val (.int 0)))))) opdsNil) bInt')) (slotM 1) (opB .Mod))) (seqM (setIxM 0 (opdM (EM.ret (.val (.int 0)))) (two (opdM (ixM (slotM 0) (opdM (EM.ret (.val (.int 0)))))) (slotM 1) (opB .FloorDiv))) (retM (getM 3)))) else skipM) (seqM (setIxM 0 (opdM (EM.ret (.val (.int 2)))) (two (opdM (ixM (slotM 0) (opdM (EM.ret (.val (.int 2)))))) (opdM (EM.ret (.val (.int 1)))) (opB .Add))) (seqM (asgM 2 (two (opdM (bltM (opdsCons (opdM (two (opdM (two (opdM (ixM (slotM 0) (opdM (EM.ret (.val (.int 1)))))) (opdM (two (opdM (EM.ret (.val (.int 104717)))) (opdM (ixM (slotM 0) (opdM (EM.ret (.val (.int 2)))))) (opB .Mult))) (opB .Add))) (opdM (EM.ret (.val (.int 69623)))) (opB .Mult))) opdsNil) bInt')) (opdM (EM.ret (.val (.int 2147483647)))) (opB .Mod))) (seqM (setIxM 0 (opdM (EM.ret (.val (.int 1)))) (two (opdM (two (opdM (bltM (opdsCons (opdM (two (opdM (two (slotM 2) (opdM (EM.ret (.val (.int 48271)))) (opB .Mult))) (opdM (EM.ret (.val (.int 30119)))) (opB .Add))) opdsNil) bInt')) (opdM (EM.ret (.val (.int 2147483629)))) (opB .Mod))) (opdM (EM.ret (.val (.int 1)))) (opB .Add))) (retM (two (opdM (bltM (opdsCons (opdM (two (opdM (two (opdM (two (slotM 2) (opdM (EM.ret (.val (.int 2147483647)))) (opB .Mult))) (opdM (ixM (slotM 0) (opdM (EM.ret (.val (.int 1)))))) (opB .Add))) (opdM (EM.ret (.val (.int 8191)))) (opB .FloorDiv))) opdsNil) bInt')) (slotM 1) (opB .Mod)))))))
def sem__law_take_4 : FSem := bodyF 4 m__law_take_4
def E__law_take_4 : FnE := ⟨"_law_take", ["_law_box_here", "_law_many"], [true], sem__law_take_4, [sh__law_take_4_0]⟩
def sh__law_pick_4_0 : Shape := ⟨2, [], [.pos 0, .pos 1], []⟩
def m__law_pick_4 : SM := (retM (ixM (slotM 1) (opdM (callM sem__law_take_4 2 sh__law_take_4_0 (opdsCons (slotM 0) (opdsCons (opdM (bltM (opdsCons (slotM 1) opdsNil) bLen)) opdsNil)) opdsNil))))
def sem__law_pick_4 : FSem := bodyF 2 m__law_pick_4
def E__law_pick_4 : FnE := ⟨"_law_pick", ["_law_box_here", "_law_some"], [true], sem__law_pick_4, [sh__law_pick_4_0]⟩
def sh__law_box_4_0 : Shape := ⟨2, [], [.pos 0, .pos 1], []⟩
def m__law_box_4 : SM := (seqM (asgM 2 (two (opdM (two (opdM (EM.ret (.val (.int 8837)))) (slotM 1) (opB .Mult))) (opdM (EM.ret (.val (.int 41)))) (opB .Add))) (seqM (thenS (boolM (two (slotM 1) (opdM (bltM (opdsCons (slotM 0) opdsNil) bLen)) (opC .Lt))) fun k => if k then (asgM 2 (bltM (opdsCons (opdM (bltM (opdsCons (opdM (ixM (slotM 0) (slotM 1))) opdsNil) bInt')) opdsNil) bAbs)) else (thenS (boolM (two (opdM (bltM (opdsCons (slotM 0) opdsNil) bLen)) (opdM (EM.ret (.val (.int 0)))) (opC .Gt))) fun k => if k then (asgM 2 (two (slotM 2) (opdM (two (opdM (two (opdM (bltM (opdsCons (opdM (bltM (opdsCons (opdM (bltM (opdsCons (opdM (ixM (slotM 0) (opdM (two (opdM (bltM (opdsCons (slotM 1) opdsNil) bInt')) (opdM (bltM (opdsCons (slotM 0) opdsNil) bLen)) (opB .Mod))))) opdsNil) bInt')) opdsNil) bAbs)) opdsNil) bInt')) (opdM (EM.ret (.val (.int 2147483629)))) (opB .Mod))) (opdM (EM.ret (.val (.int 50021)))) (opB .Mult))) (opB .Add))) else skipM)) (seqM (asgM 3 (iteM (boolM (two (slotM 2) (opdM (two (opdM (EM.ret (.val (.int 10)))) (opdM (EM.ret (.val (.int 18)))) (opB .Pow))) (opC .GtE))) (getM 2) (EM.ret (.val (.int 0))))) (retM (lstM (valsCons (getM 3) (valsCons (two (opdM (two (opdM (bltM (opdsCons (opdM (two (opdM (two (opdM (two (opdM (bltM (opdsCons (slotM 2) opdsNil) bInt')) (opdM (EM.ret (.val (.int 2147483629)))) (opB .Mod))) (opdM (EM.ret (.val (.int 39373)))) (opB .Mult))) (opdM (two (opdM (EM.ret (.val (.int 30347)))) (slotM 1) (opB .Mult))) (opB .Add))) opdsNil) bInt')) (opdM (EM.ret (.val (.int 2147483629)))) (opB .Mod))) (opdM (EM.ret (.val (.int 1)))) (opB .Add)) (valsCons (EM.ret (.val (.int 0))) valsNil))))))))
def sem__law_box_4 : FSem := bodyF 4 m__law_box_4
def E__law_box_4 : FnE := ⟨"_law_box", ["_law_script", "_law_k"], [], sem__law_box_4, [sh__law_box_4_0]⟩
end PG

namespace PG
open PySem L2 QB
def c_MOST_DIGITS : PV := .int 3
def c_DIGITS : PV := .str "0123456789"
def c_FIRST : PV := (.tup [(.int 1), (.int 0)])
def c_WHOLE : PV := (.tup [(.tup [(.tup [(.int 1), (.int 0)]), .non])])
def sh_is_integer_0 : Shape := ⟨1, [], [.pos 0], []⟩
def m_is_integer (fq : List Fq) : SM := (retM (andV (isiM fq (slotM 0) [.bt "int"]) (notV (opdM (isiM fq (slotM 0) [.bt "bool"])))))
def sem_is_integer (fq : List Fq) : FSem := bodyF 1 (m_is_integer fq)
def E_is_integer (fq : List Fq) : FnE := ⟨"is_integer", ["value"], [], sem_is_integer fq, [sh_is_integer_0]⟩
def sh_number_in_0 : Shape := ⟨1, [], [.pos 0], []⟩
def e_number_in_0 : EM RV := (two (slotM 1) (opdM (EM.ret (.val c_DIGITS))) (opC .In))
def m_number_in : SM := (seqM (thenS (orT (notT (boolM (chainM (opdM (EM.ret (.val (.int 1)))) (opdM (bltM (opdsCons (slotM 0) opdsNil) bLen)) (opdM (EM.ret (.val c_MOST_DIGITS))) .LtE .LtE))) (notT (truM (opdM (bltM (opdsCons (opdM (lcM (itV (getM 0)) (bndNm 1) (EM.ret true) [1] (eltM e_number_in_0))) opdsNil) bAll))))) fun k => if k then (retM (EM.ret (.val .non))) else skipM) (retM (iteM (andT (boolM (two (opdM (ixM (slotM 0) (opdM (EM.ret (.val (.int 0)))))) (opdM (EM.ret (.val (.str "0")))) (opC .Eq))) (boolM (two (slotM 0) (opdM (EM.ret (.val (.str "0")))) (opC .NotEq)))) (EM.ret (.val .non)) (bltM (opdsCons (slotM 0) opdsNil) bInt'))))
def sem_number_in : FSem := bodyF 2 m_number_in
def E_number_in : FnE := ⟨"number_in", ["text"], [], sem_number_in, [sh_number_in_0]⟩
def sh_is_release_0 : Shape := ⟨1, [], [.pos 0], []⟩
def sh_is_release_1 : Shape := ⟨0, ["value"], [.kw 0], []⟩
def e_is_release_0 (fq : List Fq) : EM RV := (callM (sem_is_integer fq) 1 sh_is_integer_0 (opdsCons (opdM (getM 1)) opdsNil) opdsNil)
def m_is_release (fq : List Fq) : SM := (seqM (thenS (orT (notT (truM (opdM (isiM fq (slotM 0) [.bt "tuple"])))) (orT (boolM (two (opdM (bltM (opdsCons (slotM 0) opdsNil) bLen)) (opdM (EM.ret (.val (.int 2)))) (opC .NotEq))) (notT (truM (opdM (bltM (opdsCons (opdM (lcM (itV (getM 0)) (bndNm 1) (EM.ret true) [1] (eltM (e_is_release_0 fq)))) opdsNil) bAll)))))) fun k => if k then (retM (EM.ret (.val (.bl false)))) else skipM) (retM (andV (two (opdM (ixM (slotM 0) (opdM (EM.ret (.val (.int 0)))))) (opdM (EM.ret (.val (.int 1)))) (opC .GtE)) (two (opdM (ixM (slotM 0) (opdM (EM.ret (.val (.int 1)))))) (opdM (EM.ret (.val (.int 0)))) (opC .GtE)))))
def sem_is_release (fq : List Fq) : FSem := bodyF 2 (m_is_release fq)
def E_is_release (fq : List Fq) : FnE := ⟨"is_release", ["value"], [], sem_is_release fq, [sh_is_release_0, sh_is_release_1]⟩
def sh_release_text_0 : Shape := ⟨1, [], [.pos 0], []⟩
def sh_release_text_1 : Shape := ⟨0, ["release"], [.kw 0], []⟩
def m_release_text : SM := (retM (fjM [(one (opdM (ixM (slotM 0) (opdM (EM.ret (.val (.int 0)))))) fmtP), (EM.ret (.val (.str "."))), (one (opdM (ixM (slotM 0) (opdM (EM.ret (.val (.int 1)))))) fmtP)] Str.empty))
def sem_release_text : FSem := bodyF 1 m_release_text
def E_release_text : FnE := ⟨"release_text", ["release"], [], sem_release_text, [sh_release_text_0, sh_release_text_1]⟩
def sh_release_in_0 : Shape := ⟨1, [], [.pos 0], []⟩
def e_release_in_0 (fq : List Fq) : EM RV := (callM sem_number_in 1 sh_number_in_0 (opdsCons (opdM (getM 3)) opdsNil) opdsNil)
def m_release_in (fq : List Fq) : SM := (seqM (asgM 1 (lcM (itV (strM1 (slotM 0) (opdM (EM.ret (.val (.str ".")))) splitP)) (bndNm 3) (EM.ret true) [3] (eltM (e_release_in_0 fq)))) (seqM (asgM 2 (bltM (opdsCons (slotM 1) opdsNil) bTuple)) (retM (iteM (truM (opdM (callM (sem_is_release fq) 1 sh_is_release_0 (opdsCons (opdM (getM 2)) opdsNil) opdsNil))) (getM 2) (EM.ret (.val .non))))))
def sem_release_in (fq : List Fq) : FSem := bodyF 4 (m_release_in fq)
def E_release_in (fq : List Fq) : FnE := ⟨"release_in", ["text"], [], sem_release_in fq, [sh_release_in_0]⟩
def sh_read_release_0 : Shape := ⟨1, [], [.pos 0], []⟩
def sh_read_release_1 : Shape := ⟨0, ["text"], [.kw 0], []⟩
def m_read_release (fq : List Fq) : SM := (seqM (asgM 1 (iteM (truM (opdM (isiM fq (slotM 0) [.bt "str"]))) (callM (sem_release_in fq) 1 sh_release_in_0 (opdsCons (opdM (getM 0)) opdsNil) opdsNil) (EM.ret (.val .non)))) (seqM (thenS (boolM (two (slotM 1) (opdM (EM.ret (.val .non))) (opC .Is))) fun k => if k then (raiseM ⟨"InvalidRelease", [], []⟩) else skipM) (retM (getM 1))))
def sem_read_release (fq : List Fq) : FSem := bodyF 2 (m_read_release fq)
def E_read_release (fq : List Fq) : FnE := ⟨"read_release", ["text"], [], sem_read_release fq, [sh_read_release_0, sh_read_release_1]⟩
def sh_bound_number_0 : Shape := ⟨1, [], [.pos 0], []⟩
def m_bound_number : SM := (retM (two (opdM (two (opdM (ixM (slotM 0) (opdM (EM.ret (.val (.int 0)))))) (opdM (two (opdM (EM.ret (.val (.int 10)))) (opdM (EM.ret (.val (.int 9)))) (opB .Pow))) (opB .Mult))) (opdM (ixM (slotM 0) (opdM (EM.ret (.val (.int 1)))))) (opB .Add)))
def sem_bound_number : FSem := bodyF 1 m_bound_number
def E_bound_number : FnE := ⟨"bound_number", ["release"], [], sem_bound_number, [sh_bound_number_0]⟩
def sh_numbered_bound_0 : Shape := ⟨1, [], [.pos 0], []⟩
def m_numbered_bound : SM := (retM (tupM (valsCons (two (slotM 0) (opdM (two (opdM (EM.ret (.val (.int 10)))) (opdM (EM.ret (.val (.int 9)))) (opB .Pow))) (opB .FloorDiv)) (valsCons (two (slotM 0) (opdM (two (opdM (EM.ret (.val (.int 10)))) (opdM (EM.ret (.val (.int 9)))) (opB .Pow))) (opB .Mod)) valsNil))))
def sem_numbered_bound : FSem := bodyF 1 m_numbered_bound
def E_numbered_bound : FnE := ⟨"numbered_bound", ["number"], [], sem_numbered_bound, [sh_numbered_bound_0]⟩
def sh_is_stretch_0 : Shape := ⟨1, [], [.pos 0], []⟩
def m_is_stretch (fq : List Fq) : SM := (seqM (thenS (orT (notT (truM (opdM (isiM fq (slotM 0) [.bt "tuple"])))) (orT (boolM (two (opdM (bltM (opdsCons (slotM 0) opdsNil) bLen)) (opdM (EM.ret (.val (.int 2)))) (opC .NotEq))) (notT (truM (opdM (callM (sem_is_release fq) 1 sh_is_release_0 (opdsCons (opdM (ixM (slotM 0) (opdM (EM.ret (.val (.int 0)))))) opdsNil) opdsNil)))))) fun k => if k then (retM (EM.ret (.val (.bl false)))) else skipM) (seqM (unpM (bndTup [1, 2]) (getM 0)) (retM (orV (two (slotM 2) (opdM (EM.ret (.val .non))) (opC .Is)) (andV (callM (sem_is_release fq) 1 sh_is_release_0 (opdsCons (opdM (getM 2)) opdsNil) opdsNil) (two (slotM 1) (slotM 2) (opC .Lt)))))))
def sem_is_stretch (fq : List Fq) : FSem := bodyF 3 (m_is_stretch fq)
def E_is_stretch (fq : List Fq) : FnE := ⟨"is_stretch", ["value"], [], sem_is_stretch fq, [sh_is_stretch_0]⟩
def sh_has_0 : Shape := ⟨2, [], [.pos 0, .pos 1], []⟩
def e_has_0 : EM RV := (andV (two (slotM 2) (slotM 1) (opC .LtE)) (orV (two (slotM 3) (opdM (EM.ret (.val .non))) (opC .Is)) (two (slotM 1) (slotM 3) (opC .Lt))))
def m_has : SM := (retM (bltM (opdsCons (opdM (lcM (itV (getM 0)) (bndTup [2, 3]) (EM.ret true) [2, 3] (eltM e_has_0))) opdsNil) bAny))
def sem_has : FSem := bodyF 4 m_has
def E_has : FnE := ⟨"has", ["stretches", "release"], [], sem_has, [sh_has_0]⟩
def sh_edges_0 : Shape := ⟨2, [], [.pos 0, .pos 1], []⟩
def e_edges_0 : EM RV := (bltM (opdsCons (opdM (callM sem_bound_number 1 sh_bound_number_0 (opdsCons (opdM (getM 4)) opdsNil) opdsNil)) opdsNil) bInt')
def e_edges_1 : EM RV := (callM sem_numbered_bound 1 sh_numbered_bound_0 (opdsCons (opdM (getM 5)) opdsNil) opdsNil)
def e_edges_2 : EM RV := (bltM (opdsCons (slotM 5) opdsNil) bInt')
def m_edges : SM := (seqM (asgM 2 (lcM (itV (lstM (valsStar (getM 0) (valsStar (getM 1) valsNil)))) (bndNm 3) (EM.ret true) [3, 4] (lcIn (itV (getM 3)) (bndNm 4) (boolM (two (slotM 4) (opdM (EM.ret (.val .non))) (opC .IsNot))) [4] (eltM e_edges_0)))) (retM (lcM (itV (bltM (opdsCons (opdM (lcM (itV (getM 2)) (bndNm 5) (EM.ret true) [5] (eltM e_edges_2))) opdsNil) bSorted)) (bndNm 5) (EM.ret true) [5] (eltM e_edges_1))))
def sem_edges : FSem := bodyF 6 m_edges
def E_edges : FnE := ⟨"edges", ["one", "other"], [], sem_edges, [sh_edges_0]⟩
def sh_is_joined_0 : Shape := ⟨3, [], [.pos 0, .pos 1, .pos 2], []⟩
def m_is_joined : SM := (seqM (matM (getM 0) [("and", (retM (andV (getM 1) (getM 2)))), ("or", (retM (orV (getM 1) (getM 2)))), ("less", (retM (andV (getM 1) (notV (slotM 2)))))]) (retM (two (slotM 1) (slotM 2) (opC .NotEq))))
def sem_is_joined : FSem := bodyF 3 m_is_joined
def E_is_joined : FnE := ⟨"is_joined", ["word", "here", "there"], [], sem_is_joined, [sh_is_joined_0]⟩
def sh_joined_0 : Shape := ⟨3, [], [.pos 0, .pos 1, .pos 2], []⟩
def l_joined_0 : SM := (seqM (asgM 6 (callM sem_is_joined 3 sh_is_joined_0 (opdsCons (opdM (getM 0)) (opdsCons (opdM (callM sem_has 2 sh_has_0 (opdsCons (opdM (getM 1)) (opdsCons (opdM (getM 5)) opdsNil)) opdsNil)) (opdsCons (opdM (callM sem_has 2 sh_has_0 (opdsCons (opdM (getM 2)) (opdsCons (opdM (getM 5)) opdsNil)) opdsNil)) opdsNil))) opdsNil)) (thenS (andT (truM (slotM 6)) (boolM (two (slotM 4) (opdM (EM.ret (.val .non))) (opC .Is)))) fun k => if k then (asgM 4 (getM 5)) else (thenS (andT (notT (truM (slotM 6))) (boolM (two (slotM 4) (opdM (EM.ret (.val .non))) (opC .IsNot)))) fun k => if k then (seqM (exprM (appM 3 (tupM (valsCons (getM 4) (valsCons (getM 5) valsNil))))) (asgM 4 (EM.ret (.val .non)))) else skipM)))
def m_joined : SM := (seqM (asgM 3 (lstM valsNil)) (seqM (asgM 4 (EM.ret (.val .non))) (seqM (forI (bndNm 5) (itV (callM sem_edges 2 sh_edges_0 (opdsCons (opdM (getM 1)) (opdsCons (opdM (getM 2)) opdsNil)) opdsNil)) l_joined_0) (seqM (thenS (boolM (two (slotM 4) (opdM (EM.ret (.val .non))) (opC .IsNot))) fun k => if k then (exprM (appM 3 (tupM (valsCons (getM 4) (valsCons (EM.ret (.val .non)) valsNil))))) else skipM) (retM (bltM (opdsCons (slotM 3) opdsNil) bTuple))))))
def sem_joined : FSem := bodyF 7 m_joined
def E_joined : FnE := ⟨"joined", ["word", "one", "other"], [], sem_joined, [sh_joined_0]⟩
def sh_stretch_text_0 : Shape := ⟨1, [], [.pos 0], []⟩
def m_stretch_text : SM := (seqM (unpM (bndTup [1, 2]) (getM 0)) (seqM (thenS (boolM (two (slotM 2) (opdM (EM.ret (.val .non))) (opC .Is))) fun k => if k then (retM (fjM [(EM.ret (.val (.str ">="))), (one (opdM (callM sem_release_text 1 sh_release_text_0 (opdsCons (opdM (getM 1)) opdsNil) opdsNil)) fmtP)] Str.empty)) else skipM) (seqM (thenS (boolM (two (slotM 1) (opdM (EM.ret (.val c_FIRST))) (opC .Eq))) fun k => if k then (retM (fjM [(EM.ret (.val (.str "<"))), (one (opdM (callM sem_release_text 1 sh_release_text_0 (opdsCons (opdM (getM 2)) opdsNil) opdsNil)) fmtP)] Str.empty)) else skipM) (retM (fjM [(EM.ret (.val (.str ">="))), (one (opdM (callM sem_release_text 1 sh_release_text_0 (opdsCons (opdM (getM 1)) opdsNil) opdsNil)) fmtP), (EM.ret (.val (.str " <"))), (one (opdM (callM sem_release_text 1 sh_release_text_0 (opdsCons (opdM (getM 2)) opdsNil) opdsNil)) fmtP)] Str.empty)))))
def sem_stretch_text : FSem := bodyF 3 m_stretch_text
def E_stretch_text : FnE := ⟨"stretch_text", ["stretch"], [], sem_stretch_text, [sh_stretch_text_0]⟩
def sh_stretch_in_0 : Shape := ⟨1, [], [.pos 0], []⟩
def m_stretch_in (fq : List Fq) : SM := (seqM (asgM 1 (strM1 (slotM 0) (opdM (EM.ret (.val (.str " ")))) splitP)) (seqM (asg2M 3 4 (valsCons (EM.ret (.val c_FIRST)) (valsCons (EM.ret (.val .non)) valsNil))) (seqM (thenS (boolM (two (opdM (slcM (opdM (ixM (slotM 1) (opdM (EM.ret (.val (.int 0)))))) noPart (partM (opdM (EM.ret (.val (.int 2))))))) (opdM (EM.ret (.val (.str ">=")))) (opC .Eq))) fun k => if k then (seqM (asgM 3 (callM (sem_release_in fq) 1 sh_release_in_0 (opdsCons (opdM (slcM (opdM (ixM (slotM 1) (opdM (EM.ret (.val (.int 0)))))) (partM (opdM (EM.ret (.val (.int 2))))) noPart)) opdsNil) opdsNil)) (seqM (asgM 1 (slcM (slotM 1) (partM (opdM (EM.ret (.val (.int 1))))) noPart)) (thenS (boolM (two (slotM 1) (opdM (lstM valsNil)) (opC .Eq))) fun k => if k then (retM (iteM (boolM (two (slotM 3) (opdM (EM.ret (.val .non))) (opC .IsNot))) (tupM (valsCons (getM 3) (valsCons (EM.ret (.val .non)) valsNil))) (EM.ret (.val .non)))) else skipM))) else skipM) (seqM (thenS (andT (boolM (two (opdM (bltM (opdsCons (slotM 1) opdsNil) bLen)) (opdM (EM.ret (.val (.int 1)))) (opC .Eq))) (boolM (two (opdM (slcM (opdM (ixM (slotM 1) (opdM (EM.ret (.val (.int 0)))))) noPart (partM (opdM (EM.ret (.val (.int 1))))))) (opdM (EM.ret (.val (.str "<")))) (opC .Eq)))) fun k => if k then (asgM 4 (callM (sem_release_in fq) 1 sh_release_in_0 (opdsCons (opdM (slcM (opdM (ixM (slotM 1) (opdM (EM.ret (.val (.int 0)))))) (partM (opdM (EM.ret (.val (.int 1))))) noPart)) opdsNil) opdsNil)) else skipM) (seqM (asgM 2 (tupM (valsCons (getM 3) (valsCons (getM 4) valsNil)))) (retM (iteM (andT (boolM (two (slotM 4) (opdM (EM.ret (.val .non))) (opC .IsNot))) (truM (opdM (callM (sem_is_stretch fq) 1 sh_is_stretch_0 (opdsCons (opdM (getM 2)) opdsNil) opdsNil)))) (getM 2) (EM.ret (.val .non)))))))))
def sem_stretch_in (fq : List Fq) : FSem := bodyF 5 (m_stretch_in fq)
def E_stretch_in (fq : List Fq) : FnE := ⟨"stretch_in", ["part"], [], sem_stretch_in fq, [sh_stretch_in_0]⟩
def sh_Range___init___0 : Shape := ⟨2, [], [.pos 0, .pos 1], [(.tup [])]⟩
def sh_Range___init___1 : Shape := ⟨1, [], [.pos 0, .dfl 0], [(.tup [])]⟩
def sh_Range___init___2 : Shape := ⟨1, ["stretches"], [.pos 0, .kw 0], [(.tup [])]⟩
def l_Range___init___0 (fq : List Fq) : SM := (thenS (notT (truM (opdM (callM (sem_is_stretch fq) 1 sh_is_stretch_0 (opdsCons (opdM (getM 3)) opdsNil) opdsNil)))) fun k => if k then badS else skipM)
def m_Range___init__ (fq : List Fq) : SM := (seqM (thenS (notT (truM (opdM (isiM fq (slotM 1) [.bt "list", .bt "tuple"])))) fun k => if k then badS else skipM) (seqM (forI (bndTup [2, 3]) (itE (getM 1)) (l_Range___init___0 fq)) (stoM fq 0 "stretches" (callM sem_joined 3 sh_joined_0 (opdsCons (opdM (EM.ret (.val (.str "or")))) (opdsCons (opdM (getM 1)) (opdsCons (opdM (tupM valsNil)) opdsNil))) opdsNil))))
def sem_Range___init__ (fq : List Fq) : FSem := bodyF 4 (m_Range___init__ fq)
def E_Range___init__ (fq : List Fq) : FnE := ⟨"__init__", ["self", "stretches"], [], sem_Range___init__ fq, [sh_Range___init___0, sh_Range___init___1, sh_Range___init___2]⟩
def sh_Range_every_0 : Shape := ⟨1, [], [.pos 0], []⟩
def m_Range_every (fq : List Fq) : SM := (retM (makeM [⟨"Range", (E_Range___init__ fq)⟩] 1 [] (slotM 0) (opdsCons (opdM (EM.ret (.val c_WHOLE))) opdsNil) opdsNil))
def sem_Range_every (fq : List Fq) : FSem := bodyF 1 (m_Range_every fq)
def E_Range_every (fq : List Fq) : FnE := ⟨"every", ["cls"], [], sem_Range_every fq, [sh_Range_every_0]⟩
def sh_Range_nothing_0 : Shape := ⟨1, [], [.pos 0], []⟩
def m_Range_nothing (fq : List Fq) : SM := (retM (makeM [⟨"Range", (E_Range___init__ fq)⟩] 0 [] (slotM 0) opdsNil opdsNil))
def sem_Range_nothing (fq : List Fq) : FSem := bodyF 1 (m_Range_nothing fq)
def E_Range_nothing (fq : List Fq) : FnE := ⟨"nothing", ["cls"], [], sem_Range_nothing fq, [sh_Range_nothing_0]⟩
def sh_Range_read_0 : Shape := ⟨2, [], [.pos 0, .pos 1], []⟩
def sh_Range_read_1 : Shape := ⟨1, ["text"], [.pos 0, .kw 0], []⟩
def l_Range_read_0 (fq : List Fq) : SM := (seqM (asgM 5 (callM (sem_stretch_in fq) 1 sh_stretch_in_0 (opdsCons (opdM (getM 4)) opdsNil) opdsNil)) (seqM (thenS (boolM (two (slotM 5) (opdM (EM.ret (.val .non))) (opC .Is))) fun k => if k then badS else skipM) (exprM (appM 2 (getM 5)))))
def m_Range_read (fq : List Fq) : SM := (seqM (thenS (boolM (two (slotM 1) (opdM (tupM (valsCons (EM.ret (.val (.str "all"))) (valsCons (EM.ret (.val (.str "none"))) valsNil)))) (opC .In))) fun k => if k then (retM (iteM (boolM (two (slotM 1) (opdM (EM.ret (.val (.str "all")))) (opC .Eq))) (cmethM [⟨"Range", (E_Range_every fq)⟩] "every" 1 [] (slotM 0) opdsNil opdsNil) (cmethM [⟨"Range", (E_Range_nothing fq)⟩] "nothing" 1 [] (slotM 0) opdsNil opdsNil))) else skipM) (seqM (asgM 2 (lstM valsNil)) (seqM (forI (bndTup [3, 4]) (itE (strM1 (slotM 1) (opdM (EM.ret (.val (.str " or ")))) splitP)) (l_Range_read_0 fq)) (retM (makeM [⟨"Range", (E_Range___init__ fq)⟩] 1 [] (slotM 0) (opdsCons (opdM (getM 2)) opdsNil) opdsNil)))))
def sem_Range_read (fq : List Fq) : FSem := bodyF 6 (m_Range_read fq)
def E_Range_read (fq : List Fq) : FnE := ⟨"read", ["cls", "text"], [], sem_Range_read fq, [sh_Range_read_0, sh_Range_read_1]⟩
def sh_Range___and___0 : Shape := ⟨2, [], [.pos 0, .pos 1], []⟩
def m_Range___and__ (fq : List Fq) : SM := (seqM (thenS (notT (truM (opdM (isiM fq (slotM 1) [.oc "Range"])))) fun k => if k then (retM EM.bad) else skipM) (retM (makeM [⟨"Range", (E_Range___init__ fq)⟩] 1 [] (opdM (EM.ret (.val (.cls "Range")))) (opdsCons (opdM (callM sem_joined 3 sh_joined_0 (opdsCons (opdM (EM.ret (.val (.str "and")))) (opdsCons (opdM (attrM fq [] "stretches" (slotM 0))) (opdsCons (opdM (attrM fq [] "stretches" (slotM 1))) opdsNil))) opdsNil)) opdsNil) opdsNil)))
def sem_Range___and__ (fq : List Fq) : FSem := bodyF 2 (m_Range___and__ fq)
def E_Range___and__ (fq : List Fq) : FnE := ⟨"__and__", ["self", "other"], [], sem_Range___and__ fq, [sh_Range___and___0]⟩
def sh_Range___or___0 : Shape := ⟨2, [], [.pos 0, .pos 1], []⟩
def m_Range___or__ (fq : List Fq) : SM := (seqM (thenS (notT (truM (opdM (isiM fq (slotM 1) [.oc "Range"])))) fun k => if k then (retM EM.bad) else skipM) (retM (makeM [⟨"Range", (E_Range___init__ fq)⟩] 1 [] (opdM (EM.ret (.val (.cls "Range")))) (opdsCons (opdM (callM sem_joined 3 sh_joined_0 (opdsCons (opdM (EM.ret (.val (.str "or")))) (opdsCons (opdM (attrM fq [] "stretches" (slotM 0))) (opdsCons (opdM (attrM fq [] "stretches" (slotM 1))) opdsNil))) opdsNil)) opdsNil) opdsNil)))
def sem_Range___or__ (fq : List Fq) : FSem := bodyF 2 (m_Range___or__ fq)
def E_Range___or__ (fq : List Fq) : FnE := ⟨"__or__", ["self", "other"], [], sem_Range___or__ fq, [sh_Range___or___0]⟩
def sh_Range___sub___0 : Shape := ⟨2, [], [.pos 0, .pos 1], []⟩
def m_Range___sub__ (fq : List Fq) : SM := (seqM (thenS (notT (truM (opdM (isiM fq (slotM 1) [.oc "Range"])))) fun k => if k then (retM EM.bad) else skipM) (retM (makeM [⟨"Range", (E_Range___init__ fq)⟩] 1 [] (opdM (EM.ret (.val (.cls "Range")))) (opdsCons (opdM (callM sem_joined 3 sh_joined_0 (opdsCons (opdM (EM.ret (.val (.str "less")))) (opdsCons (opdM (attrM fq [] "stretches" (slotM 0))) (opdsCons (opdM (attrM fq [] "stretches" (slotM 1))) opdsNil))) opdsNil)) opdsNil) opdsNil)))
def sem_Range___sub__ (fq : List Fq) : FSem := bodyF 2 (m_Range___sub__ fq)
def E_Range___sub__ (fq : List Fq) : FnE := ⟨"__sub__", ["self", "other"], [], sem_Range___sub__ fq, [sh_Range___sub___0]⟩
def sh_Range___xor___0 : Shape := ⟨2, [], [.pos 0, .pos 1], []⟩
def m_Range___xor__ (fq : List Fq) : SM := (seqM (thenS (notT (truM (opdM (isiM fq (slotM 1) [.oc "Range"])))) fun k => if k then (retM EM.bad) else skipM) (retM (makeM [⟨"Range", (E_Range___init__ fq)⟩] 1 [] (opdM (EM.ret (.val (.cls "Range")))) (opdsCons (opdM (callM sem_joined 3 sh_joined_0 (opdsCons (opdM (EM.ret (.val (.str "unlike")))) (opdsCons (opdM (attrM fq [] "stretches" (slotM 0))) (opdsCons (opdM (attrM fq [] "stretches" (slotM 1))) opdsNil))) opdsNil)) opdsNil) opdsNil)))
def sem_Range___xor__ (fq : List Fq) : FSem := bodyF 2 (m_Range___xor__ fq)
def E_Range___xor__ (fq : List Fq) : FnE := ⟨"__xor__", ["self", "other"], [], sem_Range___xor__ fq, [sh_Range___xor___0]⟩
def sh_Range___invert___0 : Shape := ⟨1, [], [.pos 0], []⟩
def m_Range___invert__ (fq : List Fq) : SM := (retM (makeM [⟨"Range", (E_Range___init__ fq)⟩] 1 [] (opdM (EM.ret (.val (.cls "Range")))) (opdsCons (opdM (callM sem_joined 3 sh_joined_0 (opdsCons (opdM (EM.ret (.val (.str "less")))) (opdsCons (opdM (EM.ret (.val c_WHOLE))) (opdsCons (opdM (attrM fq [] "stretches" (slotM 0))) opdsNil))) opdsNil)) opdsNil) opdsNil))
def sem_Range___invert__ (fq : List Fq) : FSem := bodyF 1 (m_Range___invert__ fq)
def E_Range___invert__ (fq : List Fq) : FnE := ⟨"__invert__", ["self"], [], sem_Range___invert__ fq, [sh_Range___invert___0]⟩
def sh_Range___contains___0 : Shape := ⟨2, [], [.pos 0, .pos 1], []⟩
def m_Range___contains__ (fq : List Fq) : SM := (retM (andV (callM (sem_is_release fq) 1 sh_is_release_0 (opdsCons (opdM (getM 1)) opdsNil) opdsNil) (callM sem_has 2 sh_has_0 (opdsCons (opdM (attrM fq [] "stretches" (slotM 0))) (opdsCons (opdM (getM 1)) opdsNil)) opdsNil)))
def sem_Range___contains__ (fq : List Fq) : FSem := bodyF 2 (m_Range___contains__ fq)
def E_Range___contains__ (fq : List Fq) : FnE := ⟨"__contains__", ["self", "value"], [], sem_Range___contains__ fq, [sh_Range___contains___0]⟩
def sh_Range___len___0 : Shape := ⟨1, [], [.pos 0], []⟩
def m_Range___len__ (fq : List Fq) : SM := (retM (bltM (opdsCons (opdM (attrM fq [] "stretches" (slotM 0))) opdsNil) bLen))
def sem_Range___len__ (fq : List Fq) : FSem := bodyF 1 (m_Range___len__ fq)
def E_Range___len__ (fq : List Fq) : FnE := ⟨"__len__", ["self"], [], sem_Range___len__ fq, [sh_Range___len___0]⟩
def sh_Range___bool___0 : Shape := ⟨1, [], [.pos 0], []⟩
def m_Range___bool__ (fq : List Fq) : SM := (retM (bltO (opdsCons (opdM (attrM fq [] "stretches" (slotM 0))) opdsNil) (boolX [])))
def sem_Range___bool__ (fq : List Fq) : FSem := bodyF 1 (m_Range___bool__ fq)
def E_Range___bool__ (fq : List Fq) : FnE := ⟨"__bool__", ["self"], [], sem_Range___bool__ fq, [sh_Range___bool___0]⟩
def sh_Range___iter___0 : Shape := ⟨1, [], [.pos 0], []⟩
def m_Range___iter__ : SM := badS
def sem_Range___iter__ : FSem := bodyF 1 m_Range___iter__
def E_Range___iter__ : FnE := ⟨"__iter__", ["self"], [], sem_Range___iter__, [sh_Range___iter___0]⟩
def sh_Range___eq___0 : Shape := ⟨2, [], [.pos 0, .pos 1], []⟩
def m_Range___eq__ (fq : List Fq) : SM := (retM (andV (isiM fq (slotM 1) [.oc "Range"]) (two (opdM (attrM fq [] "stretches" (slotM 0))) (opdM (attrM fq [] "stretches" (slotM 1))) (opC .Eq))))
def sem_Range___eq__ (fq : List Fq) : FSem := bodyF 2 (m_Range___eq__ fq)
def E_Range___eq__ (fq : List Fq) : FnE := ⟨"__eq__", ["self", "other"], [], sem_Range___eq__ fq, [sh_Range___eq___0]⟩
def sh_Range___le___0 : Shape := ⟨2, [], [.pos 0, .pos 1], []⟩
def m_Range___le__ (fq : List Fq) : SM := (seqM (thenS (notT (truM (opdM (isiM fq (slotM 1) [.oc "Range"])))) fun k => if k then (retM EM.bad) else skipM) (retM (two (opdM (callM sem_joined 3 sh_joined_0 (opdsCons (opdM (EM.ret (.val (.str "less")))) (opdsCons (opdM (attrM fq [] "stretches" (slotM 0))) (opdsCons (opdM (attrM fq [] "stretches" (slotM 1))) opdsNil))) opdsNil)) (opdM (tupM valsNil)) (opC .Eq))))
def sem_Range___le__ (fq : List Fq) : FSem := bodyF 2 (m_Range___le__ fq)
def E_Range___le__ (fq : List Fq) : FnE := ⟨"__le__", ["self", "other"], [], sem_Range___le__ fq, [sh_Range___le___0]⟩
def sh_Range___lt___0 : Shape := ⟨2, [], [.pos 0, .pos 1], []⟩
def m_Range___lt__ (fq : List Fq) : SM := (seqM (thenS (notT (truM (opdM (isiM fq (slotM 1) [.oc "Range"])))) fun k => if k then (retM EM.bad) else skipM) (retM (andV (two (opdM (callM sem_joined 3 sh_joined_0 (opdsCons (opdM (EM.ret (.val (.str "less")))) (opdsCons (opdM (attrM fq [] "stretches" (slotM 0))) (opdsCons (opdM (attrM fq [] "stretches" (slotM 1))) opdsNil))) opdsNil)) (opdM (tupM valsNil)) (opC .Eq)) (two (opdM (attrM fq [] "stretches" (slotM 0))) (opdM (attrM fq [] "stretches" (slotM 1))) (opC .NotEq)))))
def sem_Range___lt__ (fq : List Fq) : FSem := bodyF 2 (m_Range___lt__ fq)
def E_Range___lt__ (fq : List Fq) : FnE := ⟨"__lt__", ["self", "other"], [], sem_Range___lt__ fq, [sh_Range___lt___0]⟩
def sh_Range___ge___0 : Shape := ⟨2, [], [.pos 0, .pos 1], []⟩
def m_Range___ge__ (fq : List Fq) : SM := (seqM (thenS (notT (truM (opdM (isiM fq (slotM 1) [.oc "Range"])))) fun k => if k then (retM EM.bad) else skipM) (retM (two (opdM (callM sem_joined 3 sh_joined_0 (opdsCons (opdM (EM.ret (.val (.str "less")))) (opdsCons (opdM (attrM fq [] "stretches" (slotM 1))) (opdsCons (opdM (attrM fq [] "stretches" (slotM 0))) opdsNil))) opdsNil)) (opdM (tupM valsNil)) (opC .Eq))))
def sem_Range___ge__ (fq : List Fq) : FSem := bodyF 2 (m_Range___ge__ fq)
def E_Range___ge__ (fq : List Fq) : FnE := ⟨"__ge__", ["self", "other"], [], sem_Range___ge__ fq, [sh_Range___ge___0]⟩
def sh_Range___gt___0 : Shape := ⟨2, [], [.pos 0, .pos 1], []⟩
def m_Range___gt__ (fq : List Fq) : SM := (seqM (thenS (notT (truM (opdM (isiM fq (slotM 1) [.oc "Range"])))) fun k => if k then (retM EM.bad) else skipM) (retM (andV (two (opdM (callM sem_joined 3 sh_joined_0 (opdsCons (opdM (EM.ret (.val (.str "less")))) (opdsCons (opdM (attrM fq [] "stretches" (slotM 1))) (opdsCons (opdM (attrM fq [] "stretches" (slotM 0))) opdsNil))) opdsNil)) (opdM (tupM valsNil)) (opC .Eq)) (two (opdM (attrM fq [] "stretches" (slotM 0))) (opdM (attrM fq [] "stretches" (slotM 1))) (opC .NotEq)))))
def sem_Range___gt__ (fq : List Fq) : FSem := bodyF 2 (m_Range___gt__ fq)
def E_Range___gt__ (fq : List Fq) : FnE := ⟨"__gt__", ["self", "other"], [], sem_Range___gt__ fq, [sh_Range___gt___0]⟩
def sh_Range___str___0 : Shape := ⟨1, [], [.pos 0], []⟩
def e_Range___str___0 (fq : List Fq) : EM RV := (callM sem_stretch_text 1 sh_stretch_text_0 (opdsCons (opdM (getM 1)) opdsNil) opdsNil)
def m_Range___str__ (fq : List Fq) : SM := (seqM (thenS (boolM (two (opdM (attrM fq [] "stretches" (slotM 0))) (opdM (tupM valsNil)) (opC .Eq))) fun k => if k then (retM (EM.ret (.val (.str "none")))) else skipM) (seqM (thenS (boolM (two (opdM (attrM fq [] "stretches" (slotM 0))) (opdM (EM.ret (.val c_WHOLE))) (opC .Eq))) fun k => if k then (retM (EM.ret (.val (.str "all")))) else skipM) (retM (strM1 (opdM (EM.ret (.val (.str " or ")))) (opdM (lcM (itV (attrM fq [] "stretches" (slotM 0))) (bndNm 1) (EM.ret true) [1] (eltM (e_Range___str___0 fq)))) joinP))))
def sem_Range___str__ (fq : List Fq) : FSem := bodyF 2 (m_Range___str__ fq)
def E_Range___str__ (fq : List Fq) : FnE := ⟨"__str__", ["self"], [], sem_Range___str__ fq, [sh_Range___str___0]⟩
def sh_Range_only_0 : Shape := ⟨2, [], [.pos 0, .pos 1], []⟩
def sh_Range_only_1 : Shape := ⟨1, ["release"], [.pos 0, .kw 0], []⟩
def m_Range_only (fq : List Fq) : SM := (retM (makeM [⟨"Range", (E_Range___init__ fq)⟩] 1 [] (slotM 0) (opdsCons (opdM (lstM (valsCons (tupM (valsCons (getM 1) (valsCons (tupM (valsCons (ixM (slotM 1) (opdM (EM.ret (.val (.int 0))))) (valsCons (two (opdM (ixM (slotM 1) (opdM (EM.ret (.val (.int 1)))))) (opdM (EM.ret (.val (.int 1)))) (opB .Add)) valsNil))) valsNil))) valsNil))) opdsNil) opdsNil))
def sem_Range_only (fq : List Fq) : FSem := bodyF 2 (m_Range_only fq)
def E_Range_only (fq : List Fq) : FnE := ⟨"only", ["cls", "release"], [], sem_Range_only fq, [sh_Range_only_0, sh_Range_only_1]⟩
def sh_Range_series_0 : Shape := ⟨2, [], [.pos 0, .pos 1], []⟩
def sh_Range_series_1 : Shape := ⟨1, ["number"], [.pos 0, .kw 0], []⟩
def m_Range_series (fq : List Fq) : SM := (retM (makeM [⟨"Range", (E_Range___init__ fq)⟩] 1 [] (slotM 0) (opdsCons (opdM (lstM (valsCons (tupM (valsCons (tupM (valsCons (getM 1) (valsCons (EM.ret (.val (.int 0))) valsNil))) (valsCons (tupM (valsCons (two (slotM 1) (opdM (EM.ret (.val (.int 1)))) (opB .Add)) (valsCons (EM.ret (.val (.int 0))) valsNil))) valsNil))) valsNil))) opdsNil) opdsNil))
def sem_Range_series (fq : List Fq) : FSem := bodyF 2 (m_Range_series fq)
def E_Range_series (fq : List Fq) : FnE := ⟨"series", ["cls", "number"], [], sem_Range_series fq, [sh_Range_series_0, sh_Range_series_1]⟩
def sh_Range_before_0 : Shape := ⟨2, [], [.pos 0, .pos 1], []⟩
def sh_Range_before_1 : Shape := ⟨1, ["release"], [.pos 0, .kw 0], []⟩
def m_Range_before (fq : List Fq) : SM := (retM (makeM [⟨"Range", (E_Range___init__ fq)⟩] 1 [] (slotM 0) (opdsCons (opdM (iteM (boolM (two (slotM 1) (opdM (EM.ret (.val c_FIRST))) (opC .NotEq))) (lstM (valsCons (tupM (valsCons (EM.ret (.val c_FIRST)) (valsCons (getM 1) valsNil))) valsNil)) (lstM valsNil))) opdsNil) opdsNil))
def sem_Range_before (fq : List Fq) : FSem := bodyF 2 (m_Range_before fq)
def E_Range_before (fq : List Fq) : FnE := ⟨"before", ["cls", "release"], [], sem_Range_before fq, [sh_Range_before_0, sh_Range_before_1]⟩
def m_Range_least (fq : List Fq) : SM := (retM (iteM (boolM (two (opdM (attrM fq [] "stretches" (slotM 0))) (opdM (tupM valsNil)) (opC .NotEq))) (ixM (opdM (ixM (opdM (attrM fq [] "stretches" (slotM 0))) (opdM (EM.ret (.val (.int 0)))))) (opdM (EM.ret (.val (.int 0))))) (EM.ret (.val .non))))
def sem_Range_least (fq : List Fq) : FSem := bodyF 1 (m_Range_least fq)
def E_Range_least (fq : List Fq) : FnE := ⟨"least", ["self"], [], sem_Range_least fq, []⟩
def sh_Range_from_on_0 : Shape := ⟨2, [], [.pos 0, .pos 1], []⟩
def sh_Range_from_on_1 : Shape := ⟨1, ["release"], [.pos 0, .kw 0], []⟩
def m_Range_from_on (fq : List Fq) : SM := (retM (makeM [⟨"Range", (E_Range___init__ fq)⟩] 1 [] (slotM 0) (opdsCons (opdM (lstM (valsCons (tupM (valsCons (getM 1) (valsCons (EM.ret (.val .non)) valsNil))) valsNil))) opdsNil) opdsNil))
def sem_Range_from_on (fq : List Fq) : FSem := bodyF 2 (m_Range_from_on fq)
def E_Range_from_on (fq : List Fq) : FnE := ⟨"from_on", ["cls", "release"], [], sem_Range_from_on fq, [sh_Range_from_on_0, sh_Range_from_on_1]⟩
end PG

namespace PG
open PySem L2 QB
def sh__law_number_in_0 : Shape := ⟨1, [], [.pos 0], []⟩
def e__law_number_in_0 : EM RV := (getM 1)
def m__law_number_in : SM := (seqM (thenS (orT (notT (boolM (chainM (opdM (EM.ret (.val (.int 1)))) (opdM (bltM (opdsCons (slotM 0) opdsNil) bLen)) (opdM (EM.ret (.val (.int 3)))) .LtE .LtE))) (boolM (two (opdM (lcM (itV (getM 0)) (bndNm 1) (boolM (two (slotM 1) (opdM (EM.ret (.val (.str "0123456789")))) (opC .NotIn))) [1] (eltM e__law_number_in_0))) (opdM (lstM valsNil)) (opC .NotEq)))) fun k => if k then (retM (EM.ret (.val .non))) else skipM) (retM (iteM (orT (boolM (two (slotM 0) (opdM (EM.ret (.val (.str "0")))) (opC .Eq))) (boolM (two (opdM (ixM (slotM 0) (opdM (EM.ret (.val (.int 0)))))) (opdM (EM.ret (.val (.str "0")))) (opC .NotEq)))) (bltM (opdsCons (slotM 0) opdsNil) bInt') (EM.ret (.val .non)))))
def sem__law_number_in : FSem := bodyF 2 m__law_number_in
def E__law_number_in : FnE := ⟨"_law_number_in", ["_law_word"], [], sem__law_number_in, [sh__law_number_in_0]⟩
def sh__law_has_0 : Shape := ⟨2, [], [.pos 0, .pos 1], []⟩
def e__law_has_0 : EM RV := (EM.ret (.val (.int 1)))
def m__law_has : SM := (retM (two (opdM (lcM (itV (getM 0)) (bndTup [2, 3]) (andT (boolM (two (slotM 2) (slotM 1) (opC .LtE))) (orT (boolM (two (slotM 3) (opdM (EM.ret (.val .non))) (opC .Is))) (boolM (two (slotM 1) (slotM 3) (opC .Lt))))) [2, 3] (eltM e__law_has_0))) (opdM (lstM valsNil)) (opC .NotEq)))
def sem__law_has : FSem := bodyF 4 m__law_has
def E__law_has : FnE := ⟨"_law_has", ["_law_pairs_here", "_law_release_here"], [], sem__law_has, [sh__law_has_0]⟩
def sh__law_number_0 : Shape := ⟨1, [], [.pos 0], []⟩
def m__law_number : SM := (retM (two (opdM (two (opdM (ixM (slotM 0) (opdM (EM.ret (.val (.int 0)))))) (opdM (EM.ret (.val (.int 1000000)))) (opB .Mult))) (opdM (ixM (slotM 0) (opdM (EM.ret (.val (.int 1)))))) (opB .Add)))
def sem__law_number : FSem := bodyF 1 m__law_number
def E__law_number : FnE := ⟨"_law_number", ["_law_release_here"], [], sem__law_number, [sh__law_number_0]⟩
def sh__law_bounds_0 : Shape := ⟨1, [], [.pos 0], []⟩
def e__law_bounds_0 : EM RV := (getM 5)
def l__law_bounds_1 : SM := (exprM (extM 1 (opdM (lcM (itV (getM 2)) (bndNm 5) (andT (boolM (two (slotM 5) (opdM (EM.ret (.val .non))) (opC .IsNot))) (boolM (two (slotM 5) (slotM 1) (opC .NotIn)))) [5] (eltM e__law_bounds_0)))))
def e__law_bounds_2 : EM RV := (bltM (opdsCons (opdM (callM sem__law_number 1 sh__law_number_0 (opdsCons (opdM (getM 5)) opdsNil) opdsNil)) opdsNil) bInt')
def e__law_bounds_3 : EM RV := (tupM (valsCons (two (slotM 4) (opdM (EM.ret (.val (.int 1000000)))) (opB .FloorDiv)) (valsCons (two (opdM (bltM (opdsCons (slotM 4) opdsNil) bInt')) (opdM (EM.ret (.val (.int 1000000)))) (opB .Mod)) valsNil)))
def m__law_bounds : SM := (seqM (asgM 1 (lstM valsNil)) (seqM (forI (bndNm 2) (itV (getM 0)) l__law_bounds_1) (seqM (asgM 3 (bltM (opdsCons (opdM (lcM (itV (getM 1)) (bndNm 5) (EM.ret true) [5] (eltM e__law_bounds_2))) opdsNil) bSorted)) (retM (lcM (itV (getM 3)) (bndNm 4) (EM.ret true) [4] (eltM e__law_bounds_3))))))
def sem__law_bounds : FSem := bodyF 6 m__law_bounds
def E__law_bounds : FnE := ⟨"_law_bounds", ["_law_pairs_here"], [], sem__law_bounds, [sh__law_bounds_0]⟩
def sh__law_stretched_0 : Shape := ⟨2, [], [.pos 0, .pos 1], []⟩
def l__law_stretched_0 : SM := (seqM (thenS (andT (truM (slotM 5)) (boolM (two (slotM 3) (opdM (EM.ret (.val .non))) (opC .Is)))) fun k => if k then (asgM 3 (getM 4)) else skipM) (thenS (andT (notT (truM (slotM 5))) (boolM (two (slotM 3) (opdM (EM.ret (.val .non))) (opC .IsNot)))) fun k => if k then (seqM (exprM (appM 2 (tupM (valsCons (getM 3) (valsCons (getM 4) valsNil))))) (asgM 3 (EM.ret (.val .non)))) else skipM))
def m__law_stretched : SM := (seqM (asg2M 2 3 (valsCons (lstM valsNil) (valsCons (EM.ret (.val .non)) valsNil))) (seqM (forI (bndTup [4, 5]) (itZ (valsCons (getM 0) (valsCons (getM 1) valsNil))) l__law_stretched_0) (retM (bltM (opdsCons (opdM (two (slotM 2) (opdM (two (opdM (lstM (valsCons (tupM (valsCons (getM 3) (valsCons (EM.ret (.val .non)) valsNil))) valsNil))) (opdM (bltM (opdsCons (opdM (two (slotM 3) (opdM (EM.ret (.val .non))) (opC .IsNot))) opdsNil) bInt')) (opB .Mult))) (opB .Add))) opdsNil) bTuple))))
def sem__law_stretched : FSem := bodyF 6 m__law_stretched
def E__law_stretched : FnE := ⟨"_law_stretched", ["_law_bounds_here", "_law_is_in"], [], sem__law_stretched, [sh__law_stretched_0]⟩
def sh__law_whole_0 : Shape := ⟨1, [], [.pos 0], []⟩
def e__law_whole_0 : EM RV := (callM sem__law_has 2 sh__law_has_0 (opdsCons (opdM (getM 0)) (opdsCons (opdM (getM 2)) opdsNil)) opdsNil)
def m__law_whole : SM := (seqM (asgM 1 (callM sem__law_bounds 1 sh__law_bounds_0 (opdsCons (opdM (getM 0)) opdsNil) opdsNil)) (retM (callM sem__law_stretched 2 sh__law_stretched_0 (opdsCons (opdM (getM 1)) (opdsCons (opdM (lcM (itV (getM 1)) (bndNm 2) (EM.ret true) [2] (eltM e__law_whole_0))) opdsNil)) opdsNil)))
def sem__law_whole : FSem := bodyF 3 m__law_whole
def E__law_whole : FnE := ⟨"_law_whole", ["_law_pairs_here"], [], sem__law_whole, [sh__law_whole_0]⟩
def sh__law_pairs_0 : Shape := ⟨2, [], [.pos 0, .pos 1], []⟩
def l__law_pairs_0 : SM := (seqM (asg2M 5 6 (valsCons (callM sem__law_release 1 sh__law_release_0 (opdsCons (slotM 0) opdsNil) opdsNil) (valsCons (ixM (opdM (lstM (valsCons (EM.ret (.val .non)) (valsCons (callM sem__law_release 1 sh__law_release_0 (opdsCons (slotM 0) opdsNil) opdsNil) valsNil)))) (opdM (two (opdM (callM sem__law_take 2 sh__law_take_0 (opdsCons (slotM 0) (opdsCons (opdM (EM.ret (.val (.int 5)))) opdsNil)) opdsNil)) (opdM (EM.ret (.val (.int 0)))) (opC .Gt)))) valsNil))) (seqM (asgM 4 (iteM (boolM (two (slotM 2) (opdM (lstM valsNil)) (opC .NotEq))) (ixM (opdM (ixM (slotM 2) (opdM (one (opdM (EM.ret (.val (.int 1)))) opNeg)))) (opdM (EM.ret (.val (.int 1))))) (EM.ret (.val .non)))) (seqM (thenS (andT (boolM (two (slotM 4) (opdM (EM.ret (.val .non))) (opC .IsNot))) (andT (boolM (two (opdM (ixM (slotM 4) (opdM (EM.ret (.val (.int 0)))))) (opdM (EM.ret (.val (.int 60)))) (opC .Lt))) (andT (boolM (two (opdM (ixM (slotM 4) (opdM (EM.ret (.val (.int 1)))))) (opdM (EM.ret (.val (.int 60)))) (opC .Lt))) (boolM (two (opdM (callM sem__law_take 2 sh__law_take_0 (opdsCons (slotM 0) (opdsCons (opdM (EM.ret (.val (.int 3)))) opdsNil)) opdsNil)) (opdM (EM.ret (.val (.int 0)))) (opC .Eq)))))) fun k => if k then (asgM 5 (getM 4)) else skipM) (seqM (thenS (andT (boolM (two (slotM 6) (opdM (EM.ret (.val .non))) (opC .IsNot))) (notT (boolM (two (slotM 5) (slotM 6) (opC .Lt))))) fun k => if k then (asgM 6 (ixM (opdM (lstM (valsCons (tupM (valsCons (ixM (slotM 5) (opdM (EM.ret (.val (.int 0))))) (valsCons (two (opdM (ixM (slotM 5) (opdM (EM.ret (.val (.int 1)))))) (opdM (EM.ret (.val (.int 1)))) (opB .Add)) valsNil))) (valsCons (tupM (valsCons (two (opdM (ixM (slotM 5) (opdM (EM.ret (.val (.int 0)))))) (opdM (EM.ret (.val (.int 1)))) (opB .Add)) (valsCons (EM.ret (.val (.int 0))) valsNil))) valsNil)))) (opdM (callM sem__law_take 2 sh__law_take_0 (opdsCons (slotM 0) (opdsCons (opdM (EM.ret (.val (.int 2)))) opdsNil)) opdsNil)))) else skipM) (exprM (appM 2 (tupM (valsCons (getM 5) (valsCons (getM 6) valsNil)))))))))
def m__law_pairs : SM := (seqM (asgM 2 (lstM valsNil)) (seqM (forI (bndNm 3) (itA rng1 (opdsCons (opdM (callM sem__law_take 2 sh__law_take_0 (opdsCons (slotM 0) (opdsCons (opdM (two (slotM 1) (opdM (EM.ret (.val (.int 1)))) (opB .Add))) opdsNil)) opdsNil)) opdsNil)) l__law_pairs_0) (retM (getM 2))))
def sem__law_pairs : FSem := bodyF 7 m__law_pairs
def E__law_pairs : FnE := ⟨"_law_pairs", ["_law_box_here", "_law_most"], [true], sem__law_pairs, [sh__law_pairs_0]⟩
def sh__law_release_text_0 : Shape := ⟨1, [], [.pos 0], []⟩
def m__law_release_text : SM := (retM (two (opdM (two (opdM (bltM (opdsCons (opdM (ixM (slotM 0) (opdM (EM.ret (.val (.int 0)))))) opdsNil) bStr)) (opdM (EM.ret (.val (.str ".")))) (opB .Add))) (opdM (bltM (opdsCons (opdM (ixM (slotM 0) (opdM (EM.ret (.val (.int 1)))))) opdsNil) bStr)) (opB .Add)))
def sem__law_release_text : FSem := bodyF 1 m__law_release_text
def E__law_release_text : FnE := ⟨"_law_release_text", ["_law_pair"], [], sem__law_release_text, [sh__law_release_text_0]⟩
def sh__law_range_text_0 : Shape := ⟨1, [], [.pos 0], []⟩
def l__law_range_text_0 : SM := (seqM (asgM 4 (two (opdM (lstM (valsCons (two (opdM (EM.ret (.val (.str ">=")))) (opdM (callM sem__law_release_text 1 sh__law_release_text_0 (opdsCons (opdM (getM 2)) opdsNil) opdsNil)) (opB .Add)) valsNil))) (opdM (bltM (opdsCons (opdM (orV (two (slotM 2) (opdM (tupM (valsCons (EM.ret (.val (.int 1))) (valsCons (EM.ret (.val (.int 0))) valsNil)))) (opC .NotEq)) (two (slotM 3) (opdM (EM.ret (.val .non))) (opC .Is)))) opdsNil) bInt')) (opB .Mult))) (seqM (thenS (boolM (two (slotM 3) (opdM (EM.ret (.val .non))) (opC .IsNot))) fun k => if k then (asgM 4 (two (slotM 4) (opdM (lstM (valsCons (two (opdM (EM.ret (.val (.str "<")))) (opdM (callM sem__law_release_text 1 sh__law_release_text_0 (opdsCons (opdM (getM 3)) opdsNil) opdsNil)) (opB .Add)) valsNil))) (opB .Add))) else skipM) (exprM (appM 1 (strM1 (opdM (EM.ret (.val (.str " ")))) (slotM 4) joinP)))))
def m__law_range_text : SM := (seqM (thenS (orT (boolM (two (opdM (bltM (opdsCons (slotM 0) opdsNil) bLen)) (opdM (EM.ret (.val (.int 0)))) (opC .Eq))) (boolM (two (opdM (bltM (opdsCons (slotM 0) opdsNil) bTuple)) (opdM (tupM (valsCons (tupM (valsCons (tupM (valsCons (EM.ret (.val (.int 1))) (valsCons (EM.ret (.val (.int 0))) valsNil))) (valsCons (EM.ret (.val .non)) valsNil))) valsNil))) (opC .Eq)))) fun k => if k then (retM (ixM (opdM (lstM (valsCons (EM.ret (.val (.str "all"))) (valsCons (EM.ret (.val (.str "none"))) valsNil)))) (opdM (bltM (opdsCons (opdM (two (opdM (bltM (opdsCons (slotM 0) opdsNil) bLen)) (opdM (EM.ret (.val (.int 0)))) (opC .Eq))) opdsNil) bInt')))) else skipM) (seqM (asgM 1 (lstM valsNil)) (seqM (forI (bndTup [2, 3]) (itV (getM 0)) l__law_range_text_0) (retM (strM1 (opdM (EM.ret (.val (.str " or ")))) (slotM 1) joinP)))))
def sem__law_range_text : FSem := bodyF 5 m__law_range_text
def E__law_range_text : FnE := ⟨"_law_range_text", ["_law_pairs_here"], [], sem__law_range_text, [sh__law_range_text_0]⟩
def sh__law_range_text_2_0 : Shape := ⟨1, [], [.pos 0], []⟩
def l__law_range_text_2_0 : SM := (seqM (asgM 4 (two (opdM (lstM (valsCons (two (opdM (EM.ret (.val (.str ">=")))) (opdM (callM sem__law_release_text 1 sh__law_release_text_0 (opdsCons (opdM (getM 2)) opdsNil) opdsNil)) (opB .Add)) valsNil))) (opdM (bltM (opdsCons (opdM (orV (two (slotM 2) (opdM (tupM (valsCons (EM.ret (.val (.int 1))) (valsCons (EM.ret (.val (.int 0))) valsNil)))) (opC .NotEq)) (two (slotM 3) (opdM (EM.ret (.val .non))) (opC .Is)))) opdsNil) bInt')) (opB .Mult))) (seqM (thenS (boolM (two (slotM 3) (opdM (EM.ret (.val .non))) (opC .IsNot))) fun k => if k then (asgM 4 (two (slotM 4) (opdM (lstM (valsCons (two (opdM (EM.ret (.val (.str "<")))) (opdM (callM sem__law_release_text 1 sh__law_release_text_0 (opdsCons (opdM (getM 3)) opdsNil) opdsNil)) (opB .Add)) valsNil))) (opB .Add))) else skipM) (exprM (appM 1 (strM1 (opdM (EM.ret (.val (.str " ")))) (slotM 4) joinP)))))
def m__law_range_text_2 : SM := (seqM (thenS (orT (boolM (two (opdM (bltM (opdsCons (slotM 0) opdsNil) bLen)) (opdM (EM.ret (.val (.int 0)))) (opC .Eq))) (boolM (two (opdM (bltM (opdsCons (slotM 0) opdsNil) bTuple)) (opdM (tupM (valsCons (tupM (valsCons (tupM (valsCons (EM.ret (.val (.int 1))) (valsCons (EM.ret (.val (.int 0))) valsNil))) (valsCons (EM.ret (.val .non)) valsNil))) valsNil))) (opC .Eq)))) fun k => if k then (retM (ixM (opdM (lstM (valsCons (EM.ret (.val (.str "all"))) (valsCons (EM.ret (.val (.str "none"))) valsNil)))) (opdM (bltM (opdsCons (opdM (two (opdM (bltM (opdsCons (slotM 0) opdsNil) bLen)) (opdM (EM.ret (.val (.int 0)))) (opC .Eq))) opdsNil) bInt')))) else skipM) (seqM (asgM 1 (lstM valsNil)) (seqM (forI (bndTup [2, 3]) (itV (getM 0)) l__law_range_text_2_0) (retM (strM1 (opdM (EM.ret (.val (.str " or ")))) (slotM 1) joinP)))))
def sem__law_range_text_2 : FSem := bodyF 5 m__law_range_text_2
def E__law_range_text_2 : FnE := ⟨"_law_range_text", ["_law_pairs"], [], sem__law_range_text_2, [sh__law_range_text_2_0]⟩
end PG

namespace PG
open PySem L2 QB
def Bx (o : MO) : Prop := ∃ g m c : Int, 0 ≤ g ∧ o = .lst [.int g, .int m, .int c]
theorem mulL (i j : Int) (h : -(2 ^ 64) < i ∧ i < 2 ^ 64) : mulOk i j = true := mulOk_l h
theorem mulR (i j : Int) (h : -(2 ^ 64) < j ∧ j < 2 ^ 64) : mulOk i j = true := mulOk_r h
theorem take_spec {o : MO} {n : Int} (hb : Bx o) (h0 : 0 < n) (h1 : n < 1073741824) :
    ∃ r o' e', 0 ≤ r ∧ r < n ∧ Bx o' ∧ sem__law_take [.par o, .val (.int n)] = .ret (.val (.int r)) (some (.par o') :: e') := by
  obtain ⟨g, m, c, hg, rfl⟩ := hb
  have M1 : ∀ x : Int, mulOk 104729 x = true := fun x => mulL _ _ (by omega)
  have M2 : ∀ x : Int, mulOk x 48271 = true := fun x => mulR _ _ (by omega)
  have M3 : ∀ x : Int, mulOk x 69623 = true := fun x => mulR _ _ (by omega)
  have M4 : ∀ x : Int, mulOk x 2147483647 = true := fun x => mulR _ _ (by omega)
  by_cases hp : 0 < g
  · simp [sem__law_take, m__law_take, hp, h0, h1, M1, M2, M3, M4]
    exact ⟨_, Int.emod_nonneg _ (by omega), Int.emod_lt_of_pos _ h0, ⟨_, _, _, Int.ediv_nonneg hg (by omega), rfl⟩, rfl⟩
  · simp [sem__law_take, m__law_take, hp, h0, h1, M1, M2, M3, M4]
    exact ⟨_, Int.emod_nonneg _ (by omega), Int.emod_lt_of_pos _ h0, ⟨_, _, _, hg, rfl⟩, rfl⟩
def Rl (p : PV) : Prop := ∃ a b : Int, 1 ≤ a ∧ 0 ≤ b ∧ a ≤ 98 ∧ b ≤ 98 ∧ p = .tup [.int a, .int b]
theorem release_spec {o : MO} (hb : Bx o) :
    ∃ p o' e', Rl p ∧ Bx o' ∧ sem__law_release [.par o] = .ret (.val p) (some (.par o') :: e') := by
  obtain ⟨r, o1, e1, h0, h1, b1, E1⟩ := take_spec (n := 4) hb (by omega) (by omega)
  obtain ⟨r2, o2, e2, h2, h2', b2, E2⟩ := take_spec (n := 3) b1 (by omega) (by omega)
  obtain ⟨r3, o3, e3, h3, h3', b3, E3⟩ := take_spec (n := 98) b1 (by omega) (by omega)
  obtain ⟨r4, o4, e4, h4, h4', b4, E4⟩ := take_spec (n := 99) b3 (by omega) (by omega)
  obtain ⟨r5, o5, e5, h5, h5', b5, E5⟩ := take_spec (n := 4) b2 (by omega) (by omega)
  by_cases k0 : r = 0
  · simp [sem__law_release, m__law_release, sh__law_take_0, pick, Src.get, E1, E2, E3, E4, E5, k0]
    exact ⟨⟨_, _, by omega, by omega, by omega, by omega, rfl⟩, b2⟩
  · by_cases k1 : r = 1
    · simp [sem__law_release, m__law_release, sh__law_take_0, pick, Src.get, E1, E2, E3, E4, E5, k1]
      exact ⟨⟨_, _, by omega, by omega, by omega, by omega, rfl⟩, b4⟩
    · simp [sem__law_release, m__law_release, sh__law_take_0, pick, Src.get, E1, E2, E3, E4, E5, k0, k1]
      exact ⟨⟨_, _, by omega, by omega, by omega, by omega, rfl⟩, b5⟩
theorem scr_ix {ns : List Int} {k : Int} (h0 : 0 ≤ k) (h1 : k < ns.length) : ∃ v, ixP (.rdl (ns.map .int)) (.int k) = some (.int v) := by
  obtain ⟨j, rfl⟩ := Int.eq_ofNat_of_zero_le h0
  have hj : j < ns.length := by omega
  refine ⟨ns[j], ?_⟩
  simp [ixP, atI, ixN, hj]
theorem box_spec {ns : List Int} {k : Int} (h0 : 0 ≤ k) :
    ∃ o e', Bx o ∧ sem__law_box [.val (.rdl (ns.map .int)), .val (.int k)] = .ret (.own o) e' := by
  have M1 : ∀ x : Int, mulOk 8837 x = true := fun x => mulL _ _ (by omega)
  have M2 : ∀ x : Int, mulOk x 50021 = true := fun x => mulR _ _ (by omega)
  have M3 : ∀ x : Int, mulOk x 39373 = true := fun x => mulR _ _ (by omega)
  have M4 : ∀ x : Int, mulOk 30347 x = true := fun x => mulL _ _ (by omega)
  by_cases h1 : k < ns.length
  · obtain ⟨v, hv⟩ := scr_ix h0 h1
    by_cases h2 : (1000000000000000000 : Int) ≤ (if v < 0 then -v else v)
    · simp [sem__law_box, m__law_box, h1, hv, M1, M2, M3, M4, h2]
      exact ⟨_, _, _, by split <;> omega, rfl⟩
    · simp [sem__law_box, m__law_box, h1, hv, M1, M2, M3, M4, h2]
      exact ⟨_, _, _, by omega, rfl⟩
  · by_cases hn : 0 < (ns.length : Int)
    · obtain ⟨v, hv⟩ := scr_ix (ns := ns) (k := k % ns.length) (Int.emod_nonneg _ (by omega)) (Int.emod_lt_of_pos _ (by omega))
      have hn' : 0 < ns.length := by omega
      have hm : 0 ≤ (if v < 0 then -v else v) % 2147483629 := Int.emod_nonneg _ (by omega)
      by_cases h2 : (1000000000000000000 : Int) ≤ 8837 * k + 41 + (if v < 0 then -v else v) % 2147483629 * 50021
      · simp [sem__law_box, m__law_box, h1, hn, hn', hv, M1, M2, M3, M4, h2]
        exact ⟨_, _, _, by omega, rfl⟩
      · simp [sem__law_box, m__law_box, h1, hn, hn', hv, M1, M2, M3, M4, h2]
        exact ⟨_, _, _, by omega, rfl⟩
    · have hn' : ¬ 0 < ns.length := by omega
      by_cases h2 : (1000000000000000000 : Int) ≤ 8837 * k + 41
      · simp [sem__law_box, m__law_box, h1, hn, hn', M1, M2, M3, M4, h2]
        exact ⟨_, _, _, by omega, rfl⟩
      · simp [sem__law_box, m__law_box, h1, hn, hn', M1, M2, M3, M4, h2]
        exact ⟨_, _, _, by omega, rfl⟩
theorem pick_spec {o : MO} {xs : List PV} (hb : Bx o) (h0 : 0 < xs.length) (h1 : xs.length < 1000) :
    ∃ p o' e', p ∈ xs ∧ Bx o' ∧ sem__law_pick [.par o, .val (.lst xs)] = .ret (.val p) (some (.par o') :: e') := by
  obtain ⟨r, o1, e1, r0, r1, b1, E1⟩ := take_spec (n := xs.length) hb (by omega) (by omega)
  obtain ⟨k, rfl⟩ := Int.eq_ofNat_of_zero_le r0
  have hk : k < xs.length := by omega
  have hx : ixP (.lst xs) (.int k) = some xs[k] := by simp [ixP, atI, ixN, hk]
  refine ⟨xs[k], o1, [some (.val (.lst xs))], List.getElem_mem hk, b1, ?_⟩
  simp [sem__law_pick, m__law_pick, sh__law_take_0, pick, Src.get, E1, hx]
end PG

namespace PG
open PySem L2 QB
/-! ### texts -/
def Tx (n : Nat) (x : Str) : Prop := PyData.strOk x = true ∧ x.length ≤ n
theorem Tx.mono {n m : Nat} {x : Str} (h : Tx n x) (hm : n ≤ m) : Tx m x := ⟨h.1, Nat.le_trans h.2 hm⟩
theorem Tx.app {n m : Nat} {x y : Str} (h : Tx n x) (h' : Tx m y) : Tx (n + m) (x ++ y) := ⟨strOk_app h.1 h'.1, by rw [len_app]; have := h.2; have := h'.2; omega⟩
theorem Tx.sub {n : Nat} {x y : Str} (h : Tx n x) (hs : ∀ c ∈ TL.tl y, c ∈ TL.tl x) (hl : y.length ≤ x.length) : Tx n y := ⟨strOk_iff.mpr fun c hc => strOk_iff.mp h.1 c (hs c hc), Nat.le_trans hl h.2⟩
theorem spl_sub {S : List Nat} : ∀ (l : List Nat) (k : Nat) (acc : List Nat), ∀ p ∈ TL.spl S k acc l, (∀ c ∈ p, c ∈ acc ∨ c ∈ l) ∧ p.length ≤ acc.length + l.length
  | [], k, acc, p, hp => by
    rw [TL.spl_nil] at hp
    have : p = acc := by simpa using hp
    subst this
    exact ⟨fun c hc => .inl hc, by simp⟩
  | c :: r, 0, acc, p, hp => by
    cases h : TL.pre S (c :: r) with
    | true =>
      rw [TL.spl_hit h] at hp
      rcases List.mem_cons.mp hp with rfl | hp
      · exact ⟨fun c hc => .inl hc, by simp⟩
      · obtain ⟨h1, h2⟩ := spl_sub r _ [] p hp
        exact ⟨fun d hd => .inr (List.mem_cons_of_mem _ ((h1 d hd).resolve_left (by simp))), by simp at h2 ⊢; omega⟩
    | false =>
      rw [TL.spl_miss h] at hp
      obtain ⟨h1, h2⟩ := spl_sub r _ _ p hp
      refine ⟨fun d hd => ?_, by simp at h2 ⊢; omega⟩
      rcases h1 d hd with h | h
      · rcases List.mem_append.mp h with h | h
        · exact .inl h
        · have : d = c := by simpa using h
          subst this
          exact .inr List.mem_cons_self
      · exact .inr (List.mem_cons_of_mem _ h)
  | c :: r, k + 1, acc, p, hp => by
    have hp' : p ∈ TL.spl S k acc r := hp
    obtain ⟨h1, h2⟩ := spl_sub r _ _ p hp'
    exact ⟨fun d hd => (h1 d hd).imp id (List.mem_cons_of_mem _), by simp; omega⟩
theorem split_tx {n : Nat} {x d : Str} (h : Tx n x) (hd : TL.tl d ≠ []) (hk : d.cps.all (· < 256) = true) : ∀ w ∈ Txt.split x d, Tx n w := by
  intro w hw
  have e := TL.split_spl x d hd (TL.kind_ok hk)
  have hm : TL.tl w ∈ TL.spl (TL.tl d) 0 [] (TL.tl x) := by rw [← e]; exact List.mem_map.mpr ⟨w, hw, rfl⟩
  obtain ⟨h1, h2⟩ := spl_sub _ _ _ _ hm
  refine h.sub (fun c hc => (h1 c hc).resolve_left (by simp)) ?_
  rw [TL.len_tl, TL.len_tl]
  simpa using h2
theorem spl_len {S : List Nat} : ∀ (l : List Nat) (k : Nat) (acc : List Nat), (TL.spl S k acc l).length ≤ l.length + 1
  | [], k, acc => by rw [TL.spl_nil]; simp
  | c :: r, 0, acc => by
    cases h : TL.pre S (c :: r) with
    | true => rw [TL.spl_hit h]; have := spl_len (S := S) r (S.length - 1) []; simp; omega
    | false => rw [TL.spl_miss h]; have := spl_len (S := S) r 0 (acc ++ [c]); simp; omega
  | c :: r, k + 1, acc => by
    show (TL.spl S k acc r).length ≤ _
    have := spl_len (S := S) r k acc
    simp; omega
theorem split_len {x d : Str} (hd : TL.tl d ≠ []) (hk : d.cps.all (· < 256) = true) : (Txt.split x d).length ≤ x.length + 1 := by
  have e := congrArg List.length (TL.split_spl x d hd (TL.kind_ok hk))
  rw [List.length_map] at e
  rw [e, TL.len_tl]
  exact spl_len _ _ _
theorem tl_cut {x : Str} {lo hi : Option Int} : (∀ c ∈ TL.tl (cutS x lo hi), c ∈ TL.tl x) ∧ (cutS x lo hi).length ≤ x.length := by
  have e : TL.tl (cutS x lo hi) = (x.cps.toList.drop (HT.sIx x.length 0 lo)).take (HT.sIx x.length x.length hi - HT.sIx x.length 0 lo) := by
    unfold cutS TL.tl
    simp
  refine ⟨fun c hc => ?_, ?_⟩
  · rw [e] at hc
    exact List.mem_of_mem_drop (List.mem_of_mem_take hc)
  · rw [TL.len_tl, TL.len_tl, e]
    simp only [List.length_take, List.length_drop, TL.tl]
    omega
theorem Tx.cut {n : Nat} {x : Str} {lo hi : Option Int} (h : Tx n x) : Tx n (cutS x lo hi) := h.sub tl_cut.1 tl_cut.2
/-! ### numbers in texts -/
def dgs : Str := "0123456789"
def dg (c : Nat) : Bool := decide (c ∈ dgs.cps.toList)
def ck1 (c : Nat) : Bool := match PySem.intText? ⟨#[c]⟩ with
  | some n => decide (0 ≤ n)
  | none => false
def ck2 (c d : Nat) : Bool := match PySem.intText? ⟨#[c, d]⟩ with
  | some n => decide (0 ≤ n)
  | none => false
def ck3 (c d f : Nat) : Bool := match PySem.intText? ⟨#[c, d, f]⟩ with
  | some n => decide (0 ≤ n)
  | none => false
theorem ck1_all : (dgs.cps.toList.all ck1) = true := by decide +kernel
theorem ck2_all : (dgs.cps.toList.all fun c => dgs.cps.toList.all fun d => ck2 c d) = true := by decide +kernel
theorem ck3_all : (dgs.cps.toList.all fun c => dgs.cps.toList.all fun d => dgs.cps.toList.all fun f => ck3 c d f) = true := by decide +kernel
def gd (x : Str) : Bool := decide (1 ≤ x.length) && decide (x.length ≤ 3) && x.cps.toList.all dg
theorem intText_ok {x : Str} (h : gd x = true) : ∃ n, 0 ≤ n ∧ PySem.intText? x = some n := by
  unfold gd at h
  simp only [Bool.and_eq_true, decide_eq_true_eq] at h
  obtain ⟨⟨h1, h2⟩, h3⟩ := h
  have m : ∀ {c : Nat}, dg c = true → c ∈ dgs.cps.toList := fun h => of_decide_eq_true h
  obtain ⟨⟨l⟩⟩ := x
  have fin : ∀ {o : Option Int}, (match o with
    | some n => decide (0 ≤ n)
    | none => false) = true → ∃ n, 0 ≤ n ∧ o = some n := fun {o} h => by
    cases o with
    | none => cases h
    | some n => exact ⟨n, of_decide_eq_true h, rfl⟩
  match l, h1, h2, h3 with
  | [], h1, _, _ => simp [Str.length] at h1
  | [c], _, _, h3 =>
    simp at h3
    exact fin (List.all_eq_true.mp ck1_all c (m h3))
  | [c, d], _, _, h3 =>
    simp at h3
    exact fin (List.all_eq_true.mp (List.all_eq_true.mp ck2_all c (m h3.1)) d (m h3.2))
  | [c, d, f], _, _, h3 =>
    simp at h3
    exact fin (List.all_eq_true.mp (List.all_eq_true.mp (List.all_eq_true.mp ck3_all c (m h3.1)) d (m h3.2.1)) f (m h3.2.2))
  | _ :: _ :: _ :: _ :: _, _, h2, _ => simp [Str.length] at h2
def chr (c : Nat) : Str := ⟨#[c]⟩
def zero : Str := "0"
def hd0 (x : Str) : Bool := match x.cps.toList with
  | c :: _ => chr c == zero
  | [] => false
/-- the number that a word tells -/
def nIn (x : Str) : Option Int := if gd x then (if hd0 x && !(x == zero) then none else PySem.intText? x) else none
def oi : Option Int → PV
  | none => .non
  | some i => .int i
theorem nIn_pos {x : Str} {i : Int} (h : nIn x = some i) : 0 ≤ i := by
  unfold nIn at h
  split at h
  · rename_i hg
    obtain ⟨n, h0, hn⟩ := intText_ok hg
    split at h
    · cases h
    · rw [hn] at h
      cases h
      exact h0
  · cases h
@[simp] theorem c_in_chr {c : Nat} {e : En} : opC .In (.str ⟨#[c]⟩) (.str dgs) e = .ok (.val (.bl (dg c))) e := rfl
@[simp] theorem c_nin_chr {c : Nat} {e : En} : opC .NotIn (.str ⟨#[c]⟩) (.str dgs) e = .ok (.val (.bl (!dg c))) e := rfl
theorem ite_app {α : Type} {b : Bool} {m n : EM α} {e : En} : (if b = true then m else n) e = if b = true then m e else n e := by cases b <;> rfl
theorem bLen_s {x : Str} {e : En} : bLen [.str x] e = if szOk x.length then .ok (.val (.int x.length)) e else .bad := by
  show (if szOk x.length = true then EM.ret (RV.val (PV.int x.length)) else EM.bad) e = _
  rw [ite_app]
  rfl
theorem lcLoop_mapF {α : Type} {turn : PV → EM (List PV)} {g f : α → PV} {e : En} : ∀ {l : List α}, (∀ a ∈ l, turn (g a) e = .ok [f a] e) → lcLoop turn (l.map g) e = .ok (l.map f) e
  | [], _ => rfl
  | a :: l, h => by
    rw [List.map_cons, lcLoop_cons', h a List.mem_cons_self]
    simp only
    rw [lcLoop_mapF (l := l) fun b hb => h b (List.mem_cons_of_mem _ hb)]
    rfl
theorem lcLoop_filterF {α : Type} {turn : PV → EM (List PV)} {g : α → PV} {f : α → Option PV} {e : En} : ∀ {l : List α}, (∀ a ∈ l, turn (g a) e = .ok (f a).toList e) → lcLoop turn (l.map g) e = .ok (l.filterMap f) e
  | [], _ => rfl
  | a :: l, h => by
    rw [List.map_cons, lcLoop_cons', h a List.mem_cons_self]
    simp only
    rw [lcLoop_filterF (l := l) fun b hb => h b (List.mem_cons_of_mem _ hb)]
    cases z : f a <;> simp [List.filterMap_cons, z]
theorem itemsOf_s {x : Str} : itemsOf (.str x) = some (x.cps.toList.map fun c => .str ⟨#[c]⟩) := rfl
theorem eqP_lst0 {xs : List Nat} (h : PyData.strOk ⟨xs.toArray⟩ = true) : True := trivial
theorem gd_false {x : Str} (h : ¬ (1 ≤ x.length ∧ x.length ≤ 3)) : gd x = false := by
  unfold gd
  by_cases h1 : 1 ≤ x.length
  · by_cases h2 : x.length ≤ 3
    · exact absurd ⟨h1, h2⟩ h
    · simp [h2]
  · simp [h1]
theorem gd_all {x : Str} (h1 : 1 ≤ x.length) (h2 : x.length ≤ 3) : gd x = x.cps.toList.all dg := by
  unfold gd
  simp [h1, h2]
theorem all_map {xs : List Nat} : (xs.map fun c => dg c).all id = xs.all dg := by
  rw [List.all_map]
  rfl
theorem ix_s0 {x : Str} {c : Nat} {r : List Nat} (h : x.cps.toList = c :: r) (hz : szOk x.length = true) : ixP (.str x) (.int 0) = some (.str ⟨#[c]⟩) := by
  show (if szOk x.length then (atI x.cps.toList 0).map fun c => PV.str ⟨#[c]⟩ else none) = _
  rw [hz, h]
  simp [atI, ixN]
theorem hd0_cons {x : Str} {c : Nat} {r : List Nat} (h : x.cps.toList = c :: r) : hd0 x = (chr c == zero) := by
  unfold hd0
  rw [h]
theorem strOk_chr {x : Str} {c : Nat} (h : PyData.strOk x = true) (hc : c ∈ x.cps.toList) : PyData.strOk (chr c) = true := strOk_iff.mpr fun d hd => by
  have : d = c := by simpa [TL.tl, chr] using hd
  subst this
  exact strOk_iff.mp h d hc
theorem strOk_zero : PyData.strOk zero = true := by decide +kernel
theorem bInt_s {x : Str} {e : En} (h : x.length ≤ 640) : bInt' [.str x] e = match PySem.intText? x with
    | some n => .ok (.val (.int n)) e
    | none => .bad := by
  show (if decide (x.length ≤ 640) = true then (EM.opt (PySem.intText? x)).bind fun n => EM.ret (RV.val (PV.int n)) else EM.bad) e = _
  rw [if_pos (decide_eq_true h)]
  cases PySem.intText? x <;> rfl
theorem cons_of {x : Str} (h1 : 1 ≤ x.length) : ∃ c r, x.cps.toList = c :: r := by
  cases z : x.cps.toList with
  | nil => rw [TL.len_tl] at h1; unfold TL.tl at h1; rw [z] at h1; simp at h1
  | cons c r => exact ⟨c, r, rfl⟩
theorem number_eq {x : Str} (h : Tx 1000 x) : ∃ e, sem_number_in [.val (.str x)] = .ret (.val (oi (nIn x))) e := by
  have hz : szOk x.length = true := by rw [szOk_lit]; exact decide_eq_true (by have := h.2; omega)
  have hz' : x.length ≤ 16777216 := by have := h.2; omega
  by_cases h1 : 1 ≤ x.length ∧ x.length ≤ 3
  · have lp : lcLoop (lcTurn (bndNm 1) (EM.ret true) [1] (eltM e_number_in_0)) (x.cps.toList.map fun c => PV.str ⟨#[c]⟩) [some (.val (.str x)), none] = .ok (x.cps.toList.map fun c => .bl (dg c)) [some (.val (.str x)), none] := by
      refine lcLoop_mapF fun c hc => ?_
      have : c_DIGITS = .str dgs := rfl
      simp [e_number_in_0, this]
    have i1 : (1:Int) ≤ x.length := by omega
    have i2 : (x.length : Int) ≤ 3 := by omega
    obtain ⟨c, r, hc⟩ := cons_of h1.1
    have x0 := ix_s0 hc hz
    have o1 := strOk_chr h.1 (c := c) (by rw [hc]; exact List.mem_cons_self)
    have e1 := eqP_str o1 strOk_zero
    have e2 := eqP_str h.1 strOk_zero
    unfold chr zero at e1
    unfold zero at e2
    have g := gd_all h1.1 h1.2
    have h6 : x.length ≤ 640 := by omega
    have hs : x.cps.size ≤ 16777216 := hz'
    cases hg : gd x with
    | false =>
      rw [g] at hg
      simp [sem_number_in, m_number_in, bLen_s, hz', hs, i1, i2, oi, c_MOST_DIGITS, itemsOf_s, lp, blsOf_map, all_map, hg, nIn, g]
    | true =>
      obtain ⟨n, n0, hn⟩ := intText_ok hg
      have hh := hd0_cons hc
      unfold chr zero at hh
      rw [g] at hg
      cases k1 : (({ cps := #[c] } : Str) == Str.ofString "0") <;> cases k2 : (x == Str.ofString "0") <;>
      simp [sem_number_in, m_number_in, bLen_s, hz', hs, i1, i2, oi, c_MOST_DIGITS, itemsOf_s, lp, blsOf_map, all_map, hg, nIn, g, x0, opEq_app, opNe_app, e1, e2, bInt_s h6, hn, hh, zero, k1, k2]
  · have g := gd_false h1
    have hn : nIn x = none := by unfold nIn; rw [g]; rfl
    rw [hn]
    by_cases i1 : (1:Int) ≤ x.length
    · have i2 : ¬ ((x.length : Int) ≤ 3) := by omega
      simp [sem_number_in, m_number_in, bLen_s, hz', i1, i2, oi, c_MOST_DIGITS]
    · simp [sem_number_in, m_number_in, bLen_s, hz', i1, oi, c_MOST_DIGITS]
/-! ### releases -/
def isNum : PV → Bool
  | .int _ => true
  | _ => false
theorem isint_eq {fq : List Fq} {p : PV} (h : Dt p) : ∃ e, sem_is_integer fq [.val p] = .ret (.val (.bl (isNum p))) e := by
  obtain ⟨t, ht⟩ := h.ty
  cases p <;> simp [sem_is_integer, m_is_integer, isNum] <;> cases ht
def isRel : PV → Bool
  | .tup [.int a, .int b] => decide (1 ≤ a) && decide (0 ≤ b)
  | _ => false
theorem isNum_inv {p : PV} (h : isNum p = true) : ∃ i, p = .int i := by
  cases p <;> first | exact ⟨_, rfl⟩ | cases h
theorem isRel_no {x y : PV} (h : ¬ (isNum x = true ∧ isNum y = true)) : isRel (.tup [x, y]) = false := by
  cases x <;> cases y <;> first | rfl | (exact absurd ⟨rfl, rfl⟩ h)
theorem elt_int {fq : List Fq} {p q : PV} (h : Dt p) : e_is_release_0 fq [some (.val q), some (.val p)] = .ok (.val (.bl (isNum p))) [some (.val q), some (.val p)] := by
  obtain ⟨e, he⟩ := isint_eq (fq := fq) h
  simp [e_is_release_0, sh_is_integer_0, pick, Src.get, he]
theorem isrel_eq {fq : List Fq} {p : PV} (h : Dt p) : ∃ e, sem_is_release fq [.val p] = .ret (.val (.bl (isRel p))) e := by
  obtain ⟨t, ht⟩ := h.ty
  cases p with
  | ins c ks xs => cases ht
  | cls c => cases ht
  | tup xs =>
    have hx := dt_tup.mp h
    have lp : lcLoop (lcTurn (bndNm 1) (EM.ret true) [1] (eltM (e_is_release_0 fq))) xs [some (.val (.tup xs)), none] = .ok (xs.map fun x => .bl (isNum x)) [some (.val (.tup xs)), none] := by
      refine lcLoop_map fun p hp => ?_
      simp [elt_int (hx p hp)]
    match xs, hx, lp with
    | [], _, _ => simp [sem_is_release, m_is_release, isRel]
    | [x], _, _ => simp [sem_is_release, m_is_release, isRel]
    | [x, y], hx, lp =>
      simp only [List.map] at lp
      by_cases hn : isNum x = true ∧ isNum y = true
      · obtain ⟨h1, h2⟩ := hn
        obtain ⟨a, rfl⟩ := isNum_inv h1
        obtain ⟨b, rfl⟩ := isNum_inv h2
        by_cases ha : 1 ≤ a
        · by_cases hb : 0 ≤ b <;> simp [sem_is_release, m_is_release, lp, isNum, isRel, ha, hb]
        · simp [sem_is_release, m_is_release, lp, isNum, isRel, ha]
      · have hr := isRel_no hn
        have hf : (isNum x && isNum y) = false := by
          cases z1 : isNum x <;> cases z2 : isNum y <;> simp_all
        simp [sem_is_release, m_is_release, lp, hr, hf]
    | x :: y :: z :: r, _, _ =>
      have hne : ¬ ((r.length : Int) + 1 + 1 + 1 = 2) := by omega
      simp [sem_is_release, m_is_release, isRel, hne]
  | _ => simp [sem_is_release, m_is_release, isRel]
def dot : Str := "."
/-- the release that a text tells -/
def relT (x : Str) : PV := .tup ((Txt.split x dot).map fun w => oi (nIn w))
def relIn (x : Str) : PV := if isRel (relT x) then relT x else .non
theorem dt_oi {o : Option Int} : Dt (oi o) := by
  cases o
  · exact dt_non
  · exact dt_int
theorem dot_ne : TL.tl dot ≠ [] := by decide +kernel
theorem dot_kind : dot.cps.all (· < 256) = true := by decide +kernel
theorem in_eq {fq : List Fq} {x : Str} (h : Tx 900 x) : ∃ e, sem_release_in fq [.val (.str x)] = .ret (.val (relIn x)) e := by
  have lt : x.length + 2 ≤ sizeLine := by rw [sizeLine_eq]; have := h.2; omega
  have l0 : (Str.ofString ".").length = 1 := by decide +kernel
  have ws := split_tx h dot_ne dot_kind
  have wl := split_len (x := x) dot_ne dot_kind
  have hl : (Txt.split x (Str.ofString ".")).length ≤ 16777216 := by
    show (Txt.split x dot).length ≤ _
    have := h.2
    omega
  have lp : lcLoop (lcTurn (bndNm 3) (EM.ret true) [3] (eltM (e_release_in_0 fq))) ((Txt.split x (Str.ofString ".")).map PV.str) [some (.val (.str x)), none, none, none] = .ok ((Txt.split x (Str.ofString ".")).map fun w => oi (nIn w)) [some (.val (.str x)), none, none, none] := by
    refine lcLoop_mapF fun w hw => ?_
    obtain ⟨e1, E1⟩ := number_eq ((ws w hw).mono (by omega))
    simp [e_release_in_0, sh_number_in_0, pick, Src.get, E1]
  have hd : Dt (relT x) := dt_tup.mpr fun y hy => by
    obtain ⟨w, _, rfl⟩ := List.mem_map.mp hy
    exact dt_oi
  obtain ⟨e3, E3⟩ := isrel_eq (fq := fq) hd
  have er : relT x = .tup ((Txt.split x (Str.ofString ".")).map fun w => oi (nIn w)) := rfl
  rw [er] at E3
  unfold relIn
  rw [er]
  cases hr : isRel (.tup ((Txt.split x (Str.ofString ".")).map fun w => oi (nIn w))) <;> rw [hr] at E3 <;>
  simp [sem_release_in, m_release_in, l0, lt, strsP, lp, hl, sh_is_release_0, pick, Src.get, E3]
end PG

/-! ### stretches of numbers, in plain Lean -/
namespace RM
/-- stretches: from a number on, up to (without) another, or without an end -/
abbrev Sts := List (Int × Option Int)
def inS (p : Int × Option Int) (x : Int) : Bool := decide (p.1 ≤ x) && (match p.2 with
  | none => true
  | some h => decide (x < h))
def hasN (s : Sts) (x : Int) : Bool := s.any fun p => inS p x
/-- in order, apart from one another, all at or above b -/
inductive Canon : Int → Sts → Prop
  | nil {b : Int} : Canon b []
  | last {b l : Int} : b ≤ l → Canon b [(l, none)]
  | cons {b l h : Int} {r : Sts} : b ≤ l → l < h → Canon (h + 1) r → Canon b ((l, some h) :: r)
theorem Canon.mono {b c : Int} {s : Sts} (h : Canon b s) (hc : c ≤ b) : Canon c s := by
  cases h with
  | nil => exact .nil
  | last h => exact .last (by omega)
  | cons h1 h2 h3 => exact .cons (by omega) h2 h3
theorem Canon.low {b : Int} {s : Sts} (h : Canon b s) {x : Int} (hx : x < b) : hasN s x = false := by
  induction h with
  | nil => rfl
  | last h => simp [hasN, inS]; omega
  | cons h1 h2 h3 ih =>
    have := ih (by omega)
    unfold hasN at this ⊢
    rw [List.any_cons, this]
    simp [inS]; omega
theorem hasN_cons {p : Int × Option Int} {s : Sts} {x : Int} : hasN (p :: s) x = (inS p x || hasN s x) := rfl
/-- two such that hold the same numbers are the same -/
theorem canon_ext {b c : Int} {s t : Sts} (hs : Canon b s) (ht : Canon c t) (h : ∀ x, hasN s x = hasN t x) : s = t := by
  induction hs generalizing c t with
  | nil =>
    cases ht with
    | nil => rfl
    | @last c l hc => have := h l; simp [hasN, inS] at this
    | @cons c l k r hc h2 h3 => have := h l; rw [hasN_cons] at this; simp [hasN, inS, h2] at this
  | @last b l hb =>
    cases ht with
    | nil => have := h l; simp [hasN, inS] at this
    | @last c l' hc =>
      have h1 := h l
      have h2 := h l'
      simp [hasN, inS] at h1 h2
      have : l = l' := by omega
      rw [this]
    | @cons c l' h' r hc h2 h3 =>
      exfalso
      have e := h h'
      have e2 := h l'
      rw [hasN_cons, hasN_cons, h3.low (by omega)] at e
      rw [hasN_cons, hasN_cons] at e2
      simp [hasN, inS, h2] at e e2
      omega
  | @cons b l k r hb h2 h3 ih =>
    cases ht with
    | nil => have := h l; rw [hasN_cons] at this; simp [hasN, inS, h2] at this
    | @last c l' hc =>
      exfalso
      have e := h k
      have e2 := h l
      rw [hasN_cons, hasN_cons, h3.low (by omega)] at e
      rw [hasN_cons, hasN_cons] at e2
      simp [hasN, inS, h2] at e e2
      omega
    | @cons c l' k' r' hc h2' h3' =>
      have e1 := h l
      have e2 := h l'
      have e3 := h k
      have e4 := h k'
      rw [hasN_cons, hasN_cons] at e1 e2 e3 e4
      have l1 : l = l' := by
        rcases Int.lt_trichotomy l l' with q | q | q
        · exfalso
          rw [h3'.low (by omega)] at e1
          simp [inS, h2] at e1
          omega
        · exact q
        · exfalso
          rw [h3.low (by omega)] at e2
          simp [inS, h2'] at e2
          omega
      subst l1
      have k1 : k = k' := by
        rcases Int.lt_trichotomy k k' with q | q | q
        · exfalso
          rw [h3.low (by omega)] at e3
          simp [inS] at e3
          omega
        · exact q
        · exfalso
          rw [h3'.low (by omega)] at e4
          simp [inS] at e4
          omega
      subst k1
      have er : r = r' := by
        refine ih h3' fun x => ?_
        by_cases hx : x < k + 1
        · rw [h3.low hx, h3'.low hx]
        · have e := h x
          rw [hasN_cons, hasN_cons] at e
          have n : inS (l, some k) x = false := by simp [inS]; omega
          rw [n] at e
          simpa using e
      rw [er]
/-! ### the walk over the edges -/
/-- found so far, and where an open stretch began -/
def stp (p : Int → Bool) (st : Sts × Option Int) (x : Int) : Sts × Option Int := if p x && st.2.isNone then (st.1, some x) else match st.2 with
  | some l => if !p x then (st.1 ++ [(l, some x)], none) else st
  | none => st
def fin (st : Sts × Option Int) : Sts := match st.2 with
  | some l => st.1 ++ [(l, none)]
  | none => st.1
def build (p : Int → Bool) (es : List Int) : Sts := fin (es.foldl (stp p) ([], none))
def bld (p : Int → Bool) : Option Int → List Int → Sts
  | none, [] => []
  | some l, [] => [(l, none)]
  | none, e :: es => if p e then bld p (some e) es else bld p none es
  | some l, e :: es => if p e then bld p (some l) es else (l, some e) :: bld p none es
theorem fold_bld {p : Int → Bool} : ∀ (es : List Int) (acc : Sts) (low : Option Int), fin (es.foldl (stp p) (acc, low)) = acc ++ bld p low es
  | [], acc, none => by simp [fin, bld]
  | [], acc, some l => by simp [fin, bld]
  | e :: es, acc, none => by
    rw [List.foldl_cons]
    cases h : p e
    · have : stp p (acc, none) e = (acc, none) := by simp [stp, h]
      rw [this, fold_bld es]
      simp [bld, h]
    · have : stp p (acc, none) e = (acc, some e) := by simp [stp, h]
      rw [this, fold_bld es]
      simp [bld, h]
  | e :: es, acc, some l => by
    rw [List.foldl_cons]
    cases h : p e
    · have : stp p (acc, some l) e = (acc ++ [(l, some e)], none) := by simp [stp, h]
      rw [this, fold_bld es]
      simp [bld, h]
    · have : stp p (acc, some l) e = (acc, some l) := by simp [stp, h]
      rw [this, fold_bld es]
      simp [bld, h]
theorem build_bld {p : Int → Bool} {es : List Int} : build p es = bld p none es := by
  unfold build
  rw [fold_bld]
  rfl
/-- p changes at the edges only, from c on -/
def Steps (p : Int → Bool) (c : Int) (es : List Int) : Prop := ∀ x y, c ≤ x → x ≤ y → (∀ z ∈ es, z ≤ x ∨ y < z) → p x = p y
theorem Steps.tail {p : Int → Bool} {c e : Int} {es : List Int} (h : Steps p c (e :: es)) (hc : c ≤ e) : Steps p e es := fun x y h1 h2 h3 => h x y (by omega) h2 fun z hz => by
  rcases List.mem_cons.mp hz with rfl | hz
  · exact .inl h1
  · exact h3 z hz
theorem bld_spec {p : Int → Bool} : ∀ (es : List Int) (c : Int), (∀ z ∈ es, c ≤ z) → es.Pairwise (· ≤ ·) → Steps p c es →
    (p c = false → Canon (c + 1) (bld p none es) ∧ ∀ x, c ≤ x → hasN (bld p none es) x = p x) ∧
    (p c = true → ∀ l, l ≤ c → Canon l (bld p (some l) es) ∧ (∀ x, l ≤ x → x ≤ c → hasN (bld p (some l) es) x = true) ∧ ∀ x, c ≤ x → hasN (bld p (some l) es) x = p x)
  | [], c, _, _, hp => by
    refine ⟨fun h0 => ⟨.nil, fun x hx => ?_⟩, fun h1 l hl => ⟨.last (Int.le_refl _), fun x hx _ => ?_, fun x hx => ?_⟩⟩
    · rw [← hp c x (Int.le_refl _) hx (by simp), h0]
      rfl
    · simp [bld, hasN, inS, hx]
    · rw [← hp c x (Int.le_refl _) hx (by simp), h1]
      simp [bld, hasN, inS]; omega
  | e :: es, c, hc, hs, hp => by
    have ce : c ≤ e := hc e List.mem_cons_self
    obtain ⟨s1, s2⟩ := List.pairwise_cons.mp hs
    obtain ⟨i1, i2⟩ := bld_spec es e s1 s2 (hp.tail ce)
    have flat : ∀ x, c ≤ x → x < e → p x = p c := fun x h1 h2 => (hp c x (Int.le_refl _) h1 fun z hz => .inr (by
      rcases List.mem_cons.mp hz with rfl | hz
      · exact h2
      · have := s1 z hz; omega)).symm
    refine ⟨fun h0 => ?_, fun h1 l hl => ?_⟩
    · cases he : p e with
      | true =>
        have ne : c ≠ e := fun z => by rw [z, he] at h0; cases h0
        obtain ⟨j1, j2, j3⟩ := i2 he e (Int.le_refl _)
        have eb : bld p none (e :: es) = bld p (some e) es := by simp [bld, he]
        rw [eb]
        refine ⟨j1.mono (by omega), fun x hx => ?_⟩
        by_cases hx2 : x < e
        · rw [j1.low hx2, flat x hx hx2, h0]
        · exact j3 x (by omega)
      | false =>
        obtain ⟨j1, j2⟩ := i1 he
        have eb : bld p none (e :: es) = bld p none es := by simp [bld, he]
        rw [eb]
        refine ⟨j1.mono (by omega), fun x hx => ?_⟩
        by_cases hx2 : x < e
        · rw [j1.low (by omega), flat x hx hx2, h0]
        · exact j2 x (by omega)
    · cases he : p e with
      | true =>
        obtain ⟨j1, j2, j3⟩ := i2 he l (by omega)
        have eb : bld p (some l) (e :: es) = bld p (some l) es := by simp [bld, he]
        rw [eb]
        refine ⟨j1, fun x hx hx2 => j2 x hx (by omega), fun x hx => ?_⟩
        by_cases hx2 : x < e
        · rw [j2 x (by omega) (by omega), flat x hx hx2, h1]
        · exact j3 x (by omega)
      | false =>
        have ne : c ≠ e := fun z => by rw [z, he] at h1; cases h1
        obtain ⟨j1, j2⟩ := i1 he
        have eb : bld p (some l) (e :: es) = (l, some e) :: bld p none es := by simp [bld, he]
        rw [eb]
        refine ⟨.cons (Int.le_refl _) (by omega) j1, fun x hx hx2 => ?_, fun x hx => ?_⟩
        · rw [hasN_cons]
          have : inS (l, some e) x = true := by simp [inS]; omega
          rw [this]
          rfl
        · rw [hasN_cons]
          by_cases hx2 : x < e
          · have : inS (l, some e) x = true := by simp [inS]; omega
            rw [this, flat x hx hx2, h1]
            rfl
          · have : inS (l, some e) x = false := by simp [inS]; omega
            rw [this, j2 x (by omega)]
            rfl
/-- the walk gives what it should -/
theorem build_spec {p : Int → Bool} {es : List Int} {b : Int} (hb : ∀ z ∈ es, b ≤ z) (hs : es.Pairwise (· ≤ ·)) (h0 : ∀ x, (∀ z ∈ es, x < z) → p x = false) (hp : ∀ x y, x ≤ y → (∀ z ∈ es, z ≤ x ∨ y < z) → p x = p y) :
    Canon b (build p es) ∧ ∀ x, hasN (build p es) x = p x := by
  rw [build_bld]
  have hc : p (b - 1) = false := h0 _ fun z hz => by have := hb z hz; omega
  obtain ⟨i1, _⟩ := bld_spec (p := p) es (b - 1) (fun z hz => by have := hb z hz; omega) hs fun x y _ h2 h3 => hp x y h2 h3
  obtain ⟨j1, j2⟩ := i1 hc
  refine ⟨j1.mono (by omega), fun x => ?_⟩
  by_cases hx : b - 1 ≤ x
  · exact j2 x hx
  · rw [j1.low (by omega), h0 x fun z hz => by have := hb z hz; omega]
/-! ### two sets of stretches -/
def bnds (s : Sts) : List Int := s.flatMap fun p => p.1 :: p.2.toList
theorem hasN_steps {s : Sts} {x y : Int} (h : x ≤ y) (hz : ∀ z ∈ bnds s, z ≤ x ∨ y < z) : hasN s x = hasN s y := by
  induction s with
  | nil => rfl
  | cons p s ih =>
    rw [hasN_cons, hasN_cons, ih fun z hm => hz z (by unfold bnds at hm ⊢; rw [List.flatMap_cons]; exact List.mem_append_right _ hm)]
    have e : inS p x = inS p y := by
      have h1 := hz p.1 (by unfold bnds; rw [List.flatMap_cons]; simp)
      obtain ⟨l, o⟩ := p
      cases o with
      | none => simp [inS]; omega
      | some k =>
        have h2 := hz k (by unfold bnds; rw [List.flatMap_cons]; simp)
        simp [inS]
        rw [Bool.eq_iff_iff]
        simp
        omega
    rw [e]
theorem hasN_zero {s : Sts} {x : Int} (hz : ∀ z ∈ bnds s, x < z) : hasN s x = false := by
  induction s with
  | nil => rfl
  | cons p s ih =>
    rw [hasN_cons, ih fun z hm => hz z (by unfold bnds at hm ⊢; rw [List.flatMap_cons]; exact List.mem_append_right _ hm)]
    have h1 := hz p.1 (by unfold bnds; rw [List.flatMap_cons]; simp)
    simp [inS]
    intro h
    omega
/-- joined -/
theorem join_spec {f : Bool → Bool → Bool} (hf : f false false = false) {s t : Sts} {es : List Int} {b : Int} (hm : ∀ z, z ∈ es ↔ z ∈ bnds s ∨ z ∈ bnds t) (hs : es.Pairwise (· ≤ ·)) (hb : ∀ z ∈ es, b ≤ z) :
    Canon b (build (fun x => f (hasN s x) (hasN t x)) es) ∧ ∀ x, hasN (build (fun x => f (hasN s x) (hasN t x)) es) x = f (hasN s x) (hasN t x) := by
  refine build_spec hb hs (fun x hx => ?_) fun x y h hz => ?_
  · rw [hasN_zero fun z hz => hx z ((hm z).mpr (.inl hz)), hasN_zero fun z hz => hx z ((hm z).mpr (.inr hz)), hf]
  · show f _ _ = f _ _
    rw [hasN_steps h fun z hm' => hz z ((hm z).mpr (.inl hm')), hasN_steps h fun z hm' => hz z ((hm z).mpr (.inr hm'))]
end RM

namespace PG
open PySem L2 QB RM
/-! ### releases as numbers -/
def enc (n : Int) : PV := .tup [.int (n / 1000000000), .int (n % 1000000000)]
def enO : Option Int → PV
  | none => .non
  | some n => enc n
def enP (p : Int × Option Int) : PV := .tup [enc p.1, enO p.2]
def enS (s : Sts) : List PV := s.map enP
theorem leP_pair {a b c d : Int} : leP (.tup [.int a, .int b]) (.tup [.int c, .int d]) = some (decide (a < c ∨ (a = c ∧ b ≤ d))) := by
  show some (leI [a, b] [c, d]) = _
  congr 1
  unfold leI
  simp only [List.length_cons, List.length_nil, Nat.min_self]
  by_cases h : a = c
  · subst h
    by_cases h2 : b = d
    · subst h2
      simp [Ob.lexAt]
    · simp [Ob.lexAt, h2]
  · simp [Ob.lexAt, h]
    omega
theorem ltP_pair {a b c d : Int} : ltP (.tup [.int a, .int b]) (.tup [.int c, .int d]) = some (decide (a < c ∨ (a = c ∧ b < d))) := by
  show some (HT.lexLt [a, b] [c, d]) = _
  congr 1
  by_cases h : a = c
  · subst h
    by_cases h2 : b = d
    · subst h2
      simp [HT.lexLt]
    · simp [HT.lexLt, h2]
  · simp [HT.lexLt, h]
theorem leP_enc {m n : Int} : leP (enc m) (enc n) = some (decide (m ≤ n)) := by
  unfold enc
  rw [leP_pair]
  congr 1
  rw [decide_eq_decide]
  omega
theorem ltP_enc {m n : Int} : ltP (enc m) (enc n) = some (decide (m < n)) := by
  unfold enc
  rw [ltP_pair]
  congr 1
  rw [decide_eq_decide]
  omega
@[simp] theorem c_le_enc {m n : Int} {e : En} : opC .LtE (enc m) (enc n) e = .ok (.val (.bl (decide (m ≤ n)))) e := by
  show retO (leP (enc m) (enc n)) e = _
  rw [leP_enc]
  rfl
@[simp] theorem c_lt_enc {m n : Int} {e : En} : opC .Lt (enc m) (enc n) e = .ok (.val (.bl (decide (m < n)))) e := by
  show retO (ltP (enc m) (enc n)) e = _
  rw [ltP_enc]
  rfl
@[simp] theorem isNon_enc {m : Int} : isNon (enc m) = false := rfl
@[simp] theorem ix_enc0 {m : Int} : ixP (enc m) (.int 0) = some (.int (m / 1000000000)) := by simp [enc]
@[simp] theorem ix_enc1 {m : Int} : ixP (enc m) (.int 1) = some (.int (m % 1000000000)) := by simp [enc]
theorem bndTup_enP {i j : Nat} {p : Int × Option Int} {e : En} : bndTup [i, j] (enP p) e = bndTup [i, j] (.tup [enc p.1, enO p.2]) e := rfl
theorem has_elt {q : PV} {x : Int} {p : Int × Option Int} : e_has_0 [some (.val q), some (.val (enc x)), some (.val (enc p.1)), some (.val (enO p.2))] = .ok (.val (.bl (inS p x))) [some (.val q), some (.val (enc x)), some (.val (enc p.1)), some (.val (enO p.2))] := by
  obtain ⟨l, o⟩ := p
  cases o with
  | none => by_cases h : l ≤ x <;> simp [e_has_0, enO, inS, h]
  | some k => by_cases h : l ≤ x <;> simp [e_has_0, enO, inS, h]
theorem has_eq {q : PV} {s : Sts} {x : Int} (hq : itemsOf q = some (enS s)) (hl : s.length ≤ 1000) : ∃ e, sem_has [.val q, .val (enc x)] = .ret (.val (.bl (hasN s x))) e := by
  have lp : lcLoop (lcTurn (bndTup [2, 3]) (EM.ret true) [2, 3] (eltM e_has_0)) (s.map enP) [some (.val q), some (.val (enc x)), none, none] = .ok (s.map fun p => .bl (inS p x)) [some (.val q), some (.val (enc x)), none, none] := by
    refine lcLoop_mapF fun p hp => ?_
    simp [enP, has_elt]
  have hs : s.length ≤ 16777216 := by omega
  have ha : (s.map fun p => inS p x).any id = hasN s x := by
    rw [List.any_map]
    rfl
  unfold enS at hq
  simp [sem_has, m_has, hq, lp, hs, blsOf_map, ha]
/-! ### edges -/
theorem bn_eq {m : Int} : ∃ e, sem_bound_number [.val (enc m)] = .ret (.val (.int m)) e := by
  have M : mulOk (m / 1000000000) 1000000000 = true := mulOk_r (by omega)
  have e : m / 1000000000 * 1000000000 + m % 1000000000 = m := by omega
  simp [sem_bound_number, m_bound_number, M, e]
theorem nb_eq {m : Int} : ∃ e, sem_numbered_bound [.val (.int m)] = .ret (.val (enc m)) e := by
  simp [sem_numbered_bound, m_numbered_bound, enc]
def bnd1 (p : Int × Option Int) : List Int := p.1 :: p.2.toList
theorem lcLoop_flatF {α : Type} {turn : PV → EM (List PV)} {g : α → PV} {f : α → List PV} {e : En} : ∀ {l : List α}, (∀ a ∈ l, turn (g a) e = .ok (f a) e) → lcLoop turn (l.map g) e = .ok (l.flatMap f) e
  | [], _ => rfl
  | a :: l, h => by
    rw [List.map_cons, lcLoop_cons', h a List.mem_cons_self]
    simp only
    rw [lcLoop_flatF (l := l) fun b hb => h b (List.mem_cons_of_mem _ hb)]
    simp [List.flatMap_cons]
def edg (s t : Sts) : List Int := sortI (bnds s ++ bnds t)
theorem bnds_len {s : Sts} : (bnds s).length ≤ 2 * s.length := by
  induction s with
  | nil => simp [bnds]
  | cons p s ih =>
    unfold bnds at ih ⊢
    rw [List.flatMap_cons, List.length_append, List.length_cons]
    have : p.2.toList.length ≤ 1 := by cases p.2 <;> simp
    simp only [List.length_cons]
    omega
theorem edges_eq {q r : PV} {s t : Sts} (hq : seqP q = some (enS s)) (hr : seqP r = some (enS t)) (hl : s.length ≤ 1000) (hl' : t.length ≤ 1000) : ∃ e, sem_edges [.val q, .val r] = .ret (.own (.lst ((edg s t).map enc))) e := by
  have in1 : ∀ p : Int × Option Int, ∃ e3, lcLoop (lcTurn (bndNm 4) (boolM (two (slotM 4) (opdM (EM.ret (.val .non))) (opC .IsNot))) [4] (eltM e_edges_0)) [enc p.1, enO p.2] [some (.val q), some (.val r), none, some (.val (enP p)), none, none] = .ok ((bnd1 p).map PV.int) e3 ∧ e3 = [some (.val q), some (.val r), none, some (.val (enP p)), none, none] := by
    rintro ⟨l, o⟩
    obtain ⟨e1, E1⟩ := bn_eq (m := l)
    cases o with
    | none => simp [lcLoop_cons', e_edges_0, sh_bound_number_0, pick, Src.get, E1, enO, bnd1]
    | some k =>
      obtain ⟨e2, E2⟩ := bn_eq (m := k)
      simp [lcLoop_cons', e_edges_0, sh_bound_number_0, pick, Src.get, E1, E2, enO, bnd1]
  have lp : lcLoop (lcTurn (bndNm 3) (EM.ret true) [3, 4] (lcIn (itV (getM 3)) (bndNm 4) (boolM (two (slotM 4) (opdM (EM.ret (.val .non))) (opC .IsNot))) [4] (eltM e_edges_0))) ((s ++ t).map enP) [some (.val q), some (.val r), none, none, none, none] = .ok ((s ++ t).flatMap fun p => (bnd1 p).map PV.int) [some (.val q), some (.val r), none, none, none, none] := by
    refine lcLoop_flatF fun p hp => ?_
    obtain ⟨e3, h1, rfl⟩ := in1 p
    have it : itemsOf (enP p) = some [enc p.1, enO p.2] := rfl
    simp [it, h1]
  have ef : ((s ++ t).flatMap fun p => (bnd1 p).map PV.int) = (bnds s ++ bnds t).map PV.int := by
    unfold bnds
    rw [← List.flatMap_append, List.map_flatMap]
    rfl
  rw [ef] at lp
  have b1 := bnds_len (s := s)
  have b2 := bnds_len (s := t)
  have nB : (bnds s ++ bnds t).length ≤ 16777216 := by rw [List.length_append]; omega
  unfold edg
  generalize bnds s ++ bnds t = B at lp nB ⊢
  have sl : (sortI B).length ≤ 16777216 := by rw [(sortI_perm _).length_eq]; exact nB
  have lp2 : ∀ x : PV, lcLoop (lcTurn (bndNm 5) (EM.ret true) [5] (eltM e_edges_2)) (B.map PV.int) [some (.val q), some (.val r), some (.val x), none, none, none] = .ok (B.map PV.int) [some (.val q), some (.val r), some (.val x), none, none, none] := fun x => by
    refine lcLoop_mapF fun n hn => ?_
    simp [e_edges_2]
  have lp3 : ∀ x : PV, lcLoop (lcTurn (bndNm 5) (EM.ret true) [5] (eltM e_edges_1)) ((sortI B).map PV.int) [some (.val q), some (.val r), some (.val x), none, none, none] = .ok ((sortI B).map enc) [some (.val q), some (.val r), some (.val x), none, none, none] := fun x => by
    refine lcLoop_mapF fun n hn => ?_
    obtain ⟨e1, E1⟩ := nb_eq (m := n)
    simp [e_edges_1, sh_numbered_bound_0, pick, Src.get, E1]
  have l0 : s.length + t.length ≤ 16777216 := by omega
  have l00 : t.length ≤ 16777216 := by omega
  unfold enS at hq hr
  rw [List.map_append] at lp
  simp [sem_edges, m_edges, hq, hr, l0, l00, lp, nB, bSorted_l, lp2, lp3, intsOf_map, sl]
/-! ### joined -/
def wf (w : Str) : Bool → Bool → Bool := if w = "and" then fun a b => a && b else if w = "or" then fun a b => a || b else if w = "less" then fun a b => a && !b else fun a b => a != b
def Wd (w : Str) : Prop := w = "and" ∨ w = "or" ∨ w = "less" ∨ w = "unlike"
theorem sjoin_eq {w : Str} (hw : Wd w) {a b : Bool} : ∃ e, sem_is_joined [.val (.str w), .val (.bl a), .val (.bl b)] = .ret (.val (.bl (wf w a b))) e := by
  have E : ∀ x y : String, eqP (.str x) (.str y) = some (Str.ofString x == Str.ofString y) := fun x y => eqP_str (strOk_of x) (strOk_of y)
  have n1 : (Str.ofString "or" == Str.ofString "and") = false := by decide +kernel
  have n2 : (Str.ofString "less" == Str.ofString "and") = false := by decide +kernel
  have n3 : (Str.ofString "less" == Str.ofString "or") = false := by decide +kernel
  have n4 : (Str.ofString "unlike" == Str.ofString "and") = false := by decide +kernel
  have n5 : (Str.ofString "unlike" == Str.ofString "or") = false := by decide +kernel
  have n6 : (Str.ofString "unlike" == Str.ofString "less") = false := by decide +kernel
  have f1 : wf "and" a b = (a && b) := rfl
  have f2 : wf "or" a b = (a || b) := by unfold wf; rw [if_neg (by decide +kernel), if_pos rfl]
  have f3 : wf "less" a b = (a && !b) := by unfold wf; rw [if_neg (by decide +kernel), if_neg (by decide +kernel), if_pos rfl]
  have f4 : wf "unlike" a b = (a != b) := by unfold wf; rw [if_neg (by decide +kernel), if_neg (by decide +kernel), if_neg (by decide +kernel)]
  rcases hw with rfl | rfl | rfl | rfl
  · rw [f1]; cases a <;> simp [sem_is_joined, m_is_joined, E]
  · rw [f2]; cases a <;> simp [sem_is_joined, m_is_joined, E, n1]
  · rw [f3]; cases a <;> simp [sem_is_joined, m_is_joined, E, n2, n3]
  · have cn : ∀ e : En, opC .NotEq (.bl a) (.bl b) e = .ok (.val (.bl (a != b))) e := fun e => by cases a <;> cases b <;> rfl
    rw [f4]; simp [sem_is_joined, m_is_joined, E, n4, n5, n6, cn]
def pj (w : Str) (s t : Sts) (x : Int) : Bool := wf w (hasN s x) (hasN t x)
theorem appX_of {p : PV} {xs : List PV} (h : xs.length < 16777216) : appX p xs = some (xs ++ [p], .val .non) := by
  unfold appX
  rw [sizeLine_eq, if_pos (decide_eq_true h)]
theorem join_turn {w : Str} (hw : Wd w) {q r : PV} {s t : Sts} (hq : itemsOf q = some (enS s)) (hr : itemsOf r = some (enS t)) (hl : s.length ≤ 1000) (hl' : t.length ≤ 1000) {f : Sts} {lo : Option Int} {x : Int} {x6 : Option Slot} (h6 : pinO x6 = false) (hf : f.length ≤ 10000) :
    l_joined_0 [some (.val (.str w)), some (.val q), some (.val r), some (.own (.lst (enS f))), some (.val (enO lo)), some (.val (enc x)), x6] = .nx [some (.val (.str w)), some (.val q), some (.val r), some (.own (.lst (enS (stp (pj w s t) (f, lo) x).1))), some (.val (enO (stp (pj w s t) (f, lo) x).2)), some (.val (enc x)), some (.val (.bl (pj w s t x)))] := by
  obtain ⟨e1, E1⟩ := has_eq (x := x) hq hl
  obtain ⟨e2, E2⟩ := has_eq (x := x) hr hl'
  obtain ⟨e3, E3⟩ := sjoin_eq hw (a := hasN s x) (b := hasN t x)
  have ep : wf w (hasN s x) (hasN t x) = pj w s t x := rfl
  rw [ep] at E3
  have ap : ∀ p : PV, appX p (enS f) = some (enS f ++ [p], .val .non) := fun p => appX_of (by unfold enS; rw [List.length_map]; omega)
  cases hp : pj w s t x <;> rw [hp] at E3 <;> cases lo <;> simp [l_joined_0, sh_is_joined_0, sh_has_0, pick, Src.get, E1, E2, E3, stp, hp, h6, enO, ap]
  simp [enS, enP, enO]
theorem join_loop {w : Str} (hw : Wd w) {q r : PV} {s t : Sts} (hq : itemsOf q = some (enS s)) (hr : itemsOf r = some (enS t)) (hl : s.length ≤ 1000) (hl' : t.length ≤ 1000) : ∀ (es : List Int) {f : Sts} {lo : Option Int} {x5 x6 : Option Slot}, pinO x5 = false → pinO x6 = false → f.length + es.length ≤ 10000 →
    ∃ y5 y6, loopM (bndNm 5) l_joined_0 (es.map enc) [some (.val (.str w)), some (.val q), some (.val r), some (.own (.lst (enS f))), some (.val (enO lo)), x5, x6] = .nx [some (.val (.str w)), some (.val q), some (.val r), some (.own (.lst (enS (es.foldl (stp (pj w s t)) (f, lo)).1))), some (.val (enO (es.foldl (stp (pj w s t)) (f, lo)).2)), y5, y6] ∧ (es.foldl (stp (pj w s t)) (f, lo)).1.length ≤ f.length + es.length
  | [], f, lo, x5, x6, _, _, _ => ⟨x5, x6, rfl, by simp⟩
  | x :: es, f, lo, x5, x6, h5, h6, hb => by
    have T := join_turn hw hq hr hl hl' (f := f) (lo := lo) (x := x) h6 (by simp at hb; omega)
    have hs : (stp (pj w s t) (f, lo) x).1.length ≤ f.length + 1 := by
      unfold stp
      split
      · simp
      · split
        · split <;> simp
        · simp
    rw [List.map_cons, List.foldl_cons]
    generalize stp (pj w s t) (f, lo) x = st at T hs
    obtain ⟨f2, lo2⟩ := st
    dsimp only at T hs
    obtain ⟨y5, y6, h, hn⟩ := join_loop hw hq hr hl hl' es (f := f2) (lo := lo2) (x5 := some (.val (enc x))) (x6 := some (.val (.bl (pj w s t x)))) rfl rfl (by simp at hb ⊢; omega)
    refine ⟨y5, y6, ?_, by simp at hn ⊢; omega⟩
    unfold loopM
    simp [h5, T, h]
theorem tup_of {w : Str} (hw : Wd w) : wf w false false = false := by
  rcases hw with rfl | rfl | rfl | rfl <;> decide +kernel
def jn (w : Str) (s t : Sts) : Sts := build (pj w s t) (edg s t)
theorem joined_eq {w : Str} (hw : Wd w) {q r : PV} {s t : Sts} (hq : itemsOf q = some (enS s)) (hr : itemsOf r = some (enS t)) (hq' : seqP q = some (enS s)) (hr' : seqP r = some (enS t)) (hl : s.length ≤ 1000) (hl' : t.length ≤ 1000) :
    ∃ e, sem_joined [.val (.str w), .val q, .val r] = .ret (.val (.tup (enS (jn w s t)))) e := by
  obtain ⟨e1, E1⟩ := edges_eq hq' hr' hl hl'
  have b1 := bnds_len (s := s)
  have b2 := bnds_len (s := t)
  have el : (edg s t).length ≤ 4000 := by unfold edg; rw [(sortI_perm _).length_eq, List.length_append]; omega
  obtain ⟨y5, y6, L, hn⟩ := join_loop hw hq hr hl hl' (edg s t) (f := []) (lo := none) (x5 := none) (x6 := none) rfl rfl (by simp; omega)
  generalize hF : (edg s t).foldl (stp (pj w s t)) ([], none) = F at L hn
  obtain ⟨f, lo⟩ := F
  have ej : jn w s t = fin (f, lo) := by unfold jn build; rw [hF]
  have hf : f.length ≤ 4000 := by simp at hn; omega
  have ap : ∀ p : PV, appX p (enS f) = some (enS f ++ [p], .val .non) := fun p => appX_of (by unfold enS; rw [List.length_map]; omega)
  rw [ej]
  have L' : loopM (bndNm 5) l_joined_0 ((edg s t).map enc) [some (.val (.str w)), some (.val q), some (.val r), some (.own (.lst [])), some (.val .non), none, none] = .nx [some (.val (.str w)), some (.val q), some (.val r), some (.own (.lst (enS f))), some (.val (enO lo)), y5, y6] := L
  cases lo with
  | none => simp [sem_joined, m_joined, sh_edges_0, pick, Src.get, E1, L', enO, fin]
  | some l =>
    simp [sem_joined, m_joined, sh_edges_0, pick, Src.get, E1, L', enO, fin, ap]
    simp [enS, enP, enO]
end PG

namespace PG
open PySem L2 QB RM
theorem edg_mem {s t : Sts} {z : Int} : z ∈ edg s t ↔ z ∈ bnds s ∨ z ∈ bnds t := by
  unfold edg
  rw [(sortI_perm _).mem_iff, List.mem_append]
theorem jn_spec {w : Str} (hw : Wd w) {s t : Sts} {b : Int} (hs : ∀ z ∈ bnds s, b ≤ z) (ht : ∀ z ∈ bnds t, b ≤ z) : Canon b (jn w s t) ∧ ∀ x, hasN (jn w s t) x = wf w (hasN s x) (hasN t x) :=
  join_spec (f := wf w) (tup_of hw) (fun z => edg_mem) (sortI_le _) fun z hz => (edg_mem.mp hz).elim (hs z) (ht z)
/-- stretches as a range takes them -/
def Ok1 (p : Int × Option Int) : Prop := 1000000000 ≤ p.1 ∧ ∀ h, p.2 = some h → p.1 < h
def OkS (s : Sts) : Prop := ∀ p ∈ s, Ok1 p
theorem OkS.bnds {s : Sts} (h : OkS s) : ∀ z ∈ bnds s, 1000000000 ≤ z := by
  intro z hz
  unfold RM.bnds at hz
  obtain ⟨p, hp, hz⟩ := List.mem_flatMap.mp hz
  obtain ⟨h1, h2⟩ := h p hp
  rcases List.mem_cons.mp hz with rfl | hz
  · exact h1
  · have := h2 z (by simpa using hz)
    omega
theorem Canon.ok {b : Int} {s : Sts} (h : Canon b s) (hb : 1000000000 ≤ b) : OkS s := by
  induction h with
  | nil => exact fun p hp => by cases hp
  | last h => exact fun p hp => by simp at hp; subst hp; exact ⟨by show 1000000000 ≤ _; omega, fun h z => by cases z⟩
  | cons h1 h2 h3 ih =>
    intro p hp
    rcases List.mem_cons.mp hp with rfl | hp
    · exact ⟨by show 1000000000 ≤ _; omega, fun h z => by cases z; exact h2⟩
    · exact ih (by omega) p hp
theorem isRel_enc {n : Int} (h : 1000000000 ≤ n) : isRel (enc n) = true := by
  unfold enc isRel
  simp
  omega
theorem dt_enc {n : Int} : Dt (enc n) := ⟨.tuple [.int (n / 1000000000), .int (n % 1000000000)], rfl⟩
theorem stretch_eq {fq : List Fq} {p : Int × Option Int} (h : Ok1 p) : ∃ e, sem_is_stretch fq [.val (enP p)] = .ret (.val (.bl true)) e := by
  obtain ⟨l, o⟩ := p
  obtain ⟨h1, h2⟩ := h
  obtain ⟨e1, E1⟩ := isrel_eq (fq := fq) (dt_enc (n := l))
  rw [isRel_enc h1] at E1
  cases o with
  | none => simp [sem_is_stretch, m_is_stretch, enP, enO, sh_is_release_0, pick, Src.get, E1]
  | some k =>
    have h2 : l < k := h2 k rfl
    obtain ⟨e2, E2⟩ := isrel_eq (fq := fq) (dt_enc (n := k))
    rw [isRel_enc (by omega)] at E2
    simp [sem_is_stretch, m_is_stretch, enP, enO, sh_is_release_0, pick, Src.get, E1, E2, h2]
theorem enumP_mem : ∀ {xs : List PV} {i : Nat} {p : PV}, p ∈ enumP i xs → ∃ (j : Nat) (x : PV), x ∈ xs ∧ p = .tup [.int j, x]
  | [], _, _, h => by cases h
  | x :: xs, i, p, h => by
    rcases List.mem_cons.mp h with rfl | h
    · exact ⟨i, x, List.mem_cons_self, rfl⟩
    · obtain ⟨j, y, hy, e⟩ := enumP_mem h
      exact ⟨j, y, List.mem_cons_of_mem _ hy, e⟩
/-- a list or tuple of stretches -/
structure Sq (q : PV) (s : Sts) : Prop where
  it : itemsOf q = some (enS s)
  sq : seqP q = some (enS s)
  en : enm [q] = some (enumP 0 (enS s))
  is : ∀ fq, isiP fq [.bt "list", .bt "tuple"] q = some true
theorem Sq.tup {s : Sts} : Sq (.tup (enS s)) s := ⟨rfl, rfl, rfl, fun _ => isi_lt_tup⟩
theorem Sq.lst {s : Sts} : Sq (.lst (enS s)) s := ⟨rfl, rfl, rfl, fun _ => isi_lt_lst⟩
def rgO (s : Sts) : MO := .ins "Range" ["stretches"] [.tup (enS s)]
def rg (s : Sts) : PV := .ins "Range" ["stretches"] [.tup (enS s)]
theorem init_eq {fq : List Fq} (F : noatT fq "Range" "stretches" = true) {q : PV} {s : Sts} (hq : Sq q s) (hv : OkS s) (hl : s.length ≤ 1000) :
    ∃ e', sem_Range___init__ fq [.par (.ins "Range" [] []), .val q] = .ret (.val .non) (some (.par (rgO (jn "or" s []))) :: e') := by
  obtain ⟨e1, h, x2, x3, h2, h3, rfl⟩ := loop_inv (b := bndTup [2, 3]) (body := l_Range___init___0 fq) (ps := enumP 0 (enS s)) (e := [some (.par (.ins "Range" [] [])), some (.val q), none, none])
    (I := fun e => ∃ a b, pinO a = false ∧ pinO b = false ∧ e = [some (.par (.ins "Range" [] [])), some (.val q), a, b]) (by
      rintro p hp _ ⟨a, b, ha, hb, rfl⟩
      obtain ⟨j, x, hx, rfl⟩ := enumP_mem hp
      obtain ⟨pr, hpr, rfl⟩ := List.mem_map.mp hx
      obtain ⟨e2, E2⟩ := stretch_eq (fq := fq) (hv pr hpr)
      refine ⟨[some (.par (.ins "Range" [] [])), some (.val q), some (.val (.int j)), some (.val (enP pr))], by simp [ha, hb], ?_⟩
      refine ⟨[some (.par (.ins "Range" [] [])), some (.val q), some (.val (.int j)), some (.val (enP pr))], ?_, _, _, rfl, rfl, rfl⟩
      simp [l_Range___init___0, sh_is_stretch_0, pick, Src.get, E2]) ⟨_, _, rfl, rfl, rfl⟩
  obtain ⟨e3, E3⟩ := joined_eq (w := "or") (.inr (.inl rfl)) (r := .tup []) (t := []) hq.it rfl hq.sq rfl hl (by simp)
  have d1 : decide ((0 : Nat) < 1000) = true := by decide
  simp [sem_Range___init__, m_Range___init__, hq.is, hq.en, h, sh_joined_0, pick, Src.get, E3, stoM, insAt, F, putKs, putXs, rgO]
end PG

namespace PG
open PySem L2 QB RM
/-! ### stretches compared -/
def dE (n : Int) : PyData := .tuple [.int (n / 1000000000), .int (n % 1000000000)]
def dO : Option Int → PyData
  | none => .none
  | some n => dE n
def dP (p : Int × Option Int) : PyData := .tuple [dE p.1, dO p.2]
theorem data_enc {n : Int} : (enc n).data = some (dE n) := rfl
theorem data_enO {o : Option Int} : (enO o).data = some (dO o) := by cases o <;> rfl
theorem data_enP {p : Int × Option Int} : (enP p).data = some (dP p) := by
  obtain ⟨l, o⟩ := p
  cases o <;> rfl
theorem datas_enS : ∀ {s : Sts}, datas (enS s) = some (s.map dP)
  | [] => rfl
  | p :: s => by
    show (match (enP p).data, datas (enS s) with
      | some d, some ds => some (d :: ds)
      | _, _ => none) = _
    rw [data_enP, datas_enS]
    rfl
theorem eqv_dE {m n : Int} : PyData.eqv (dE m) (dE n) = decide (m = n) := by
  show ((m / 1000000000 == n / 1000000000) && ((m % 1000000000 == n % 1000000000) && true)) = _
  rw [Bool.eq_iff_iff]
  simp
  omega
theorem eqv_dO {m n : Option Int} : PyData.eqv (dO m) (dO n) = decide (m = n) := by
  cases m with
  | none => cases n <;> rfl
  | some m =>
    cases n with
    | none => rfl
    | some n =>
      show PyData.eqv (dE m) (dE n) = _
      rw [eqv_dE]
      simp
theorem eqv_dP {p q : Int × Option Int} : PyData.eqv (dP p) (dP q) = decide (p = q) := by
  show (PyData.eqv (dE p.1) (dE q.1) && (PyData.eqv (dO p.2) (dO q.2) && true)) = _
  rw [eqv_dE, eqv_dO]
  obtain ⟨a, b⟩ := p
  obtain ⟨c, d⟩ := q
  rw [Bool.eq_iff_iff]
  simp
theorem eqvAll_dP : ∀ {s t : Sts}, PyData.eqvAll (s.map dP) (t.map dP) = decide (s = t)
  | [], [] => rfl
  | [], _ :: _ => rfl
  | _ :: _, [] => rfl
  | p :: s, q :: t => by
    show (PyData.eqv (dP p) (dP q) && PyData.eqvAll (s.map dP) (t.map dP)) = _
    rw [eqv_dP, eqvAll_dP, Bool.eq_iff_iff]
    simp
theorem lay_dP {p : Int × Option Int} : PyData.canLay0 (dP p) = true ∧ PyData.depth (dP p) ≤ 2 := by
  obtain ⟨l, o⟩ := p
  cases o with
  | none => exact ⟨rfl, by show max (max 0 (max 0 0) + 1) (max 0 0) + 1 ≤ 2; decide⟩
  | some k => exact ⟨rfl, by show max (max 0 (max 0 0) + 1) (max (max 0 (max 0 0) + 1) 0) + 1 ≤ 2; decide⟩
theorem lay_dS : ∀ {s : Sts}, PyData.canLayAll0 (s.map dP) = true ∧ PyData.depthAll (s.map dP) ≤ 2
  | [] => ⟨rfl, by show 0 ≤ 2; decide⟩
  | p :: s => by
    obtain ⟨h1, h2⟩ := lay_dS (s := s)
    obtain ⟨h3, h4⟩ := lay_dP (p := p)
    refine ⟨?_, ?_⟩
    · show (PyData.canLay0 (dP p) && PyData.canLayAll0 (s.map dP)) = true
      rw [h1, h3]
      rfl
    · show max (PyData.depth (dP p)) (PyData.depthAll (s.map dP)) ≤ 2
      omega
theorem shp_tup {s : Sts} : shp (.tuple (s.map dP)) = true := by
  obtain ⟨h1, h2⟩ := lay_dS (s := s)
  show (PyData.canLayAll0 (s.map dP) && decide (PyData.depthAll (s.map dP) + 1 ≤ 64)) = true
  rw [h1, decide_eq_true (by omega)]
  rfl
theorem shp_lst {s : Sts} : shp (.list (s.map dP)) = true := by
  obtain ⟨h1, h2⟩ := lay_dS (s := s)
  show (PyData.canLayAll0 (s.map dP) && decide (PyData.depthAll (s.map dP) + 1 ≤ 64)) = true
  rw [h1, decide_eq_true (by omega)]
  rfl
theorem eqP_tt {s t : Sts} : eqP (.tup (enS s)) (.tup (enS t)) = some (decide (s = t)) := by
  unfold eqP PV.data
  rw [datas_enS, datas_enS]
  show (if shp (.tuple (s.map dP)) && shp (.tuple (t.map dP)) then some (PyData.eqvAll (s.map dP) (t.map dP)) else none) = _
  rw [shp_tup, shp_tup, eqvAll_dP]
  rfl
theorem eqP_ll {s t : Sts} : eqP (.lst (enS s)) (.lst (enS t)) = some (decide (s = t)) := by
  unfold eqP PV.data
  rw [datas_enS, datas_enS]
  show (if shp (.list (s.map dP)) && shp (.list (t.map dP)) then some (PyData.eqvAll (s.map dP) (t.map dP)) else none) = _
  rw [shp_lst, shp_lst, eqvAll_dP]
  rfl
@[simp] theorem c_eq_tt {s t : Sts} {e : En} : opC .Eq (.tup (enS s)) (.tup (enS t)) e = .ok (.val (.bl (decide (s = t)))) e := by
  rw [opEq_app, eqP_tt]
@[simp] theorem c_ne_tt {s t : Sts} {e : En} : opC .NotEq (.tup (enS s)) (.tup (enS t)) e = .ok (.val (.bl (!decide (s = t)))) e := by
  rw [opNe_app, eqP_tt]
@[simp] theorem c_eq_t0 {s : Sts} {e : En} : opC .Eq (.tup (enS s)) (.tup []) e = .ok (.val (.bl (decide (s = [])))) e := c_eq_tt (t := [])
@[simp] theorem c_ne_t0 {s : Sts} {e : En} : opC .NotEq (.tup (enS s)) (.tup []) e = .ok (.val (.bl (!decide (s = [])))) e := c_ne_tt (t := [])
/-! ### ranges made -/
structure FqG (fq : List Fq) : Prop where
  st : noatT fq "Range" "stretches" = true
  is : isiB fq (.oc "Range") [.oc "Range"] = some true
  dun : dunT fq "Range" = true
theorem make2 {fq : List Fq} (F : FqG fq) {q : PV} {s : Sts} (hq : Sq q s) (hv : OkS s) (hl : s.length ≤ 1000) {mo : EM Opd} {ms mk : EM (List Opd)} {e e1 e2 e3 : En} {o : Opd} (h1 : mo e = .ok o e1) (ho : o.look e1 = some (.cls "Range")) (h2 : ms e1 = .ok [.pv q] e2) (h3 : mk e2 = .ok [] e3) :
    makeM [⟨"Range", E_Range___init__ fq⟩] 1 [] mo ms mk e = .ok (.own (rgO (jn "or" s []))) e3 := by
  obtain ⟨e', E⟩ := init_eq F.st hq hv hl
  have fm : findM [⟨"Range", E_Range___init__ fq⟩] "Range" "__init__" (1 + 1) [] = some (⟨"Range", E_Range___init__ fq⟩, sh_Range___init___0) := findM_one rfl rfl
  have mk' : makeE (sem_Range___init__ fq) "Range" (fun i => pick sh_Range___init___0.src (.slot i :: [.pv q]) [] (sh_Range___init___0.dfl.map .pv)) e3 = .ok (.own (rgO (jn "or" s []))) e3 := makeE_pvs (ps := [q]) rfl E
  unfold makeM EM.bind
  simp only [h1, lookM_app, ho]
  unfold makeK
  dsimp only
  rw [fm]
  dsimp only
  unfold EM.bind
  simp only [h2, h3]
  unfold makeS
  rw [if_pos (by rfl)]
  exact mk'
theorem make1 {fq : List Fq} (F : FqG fq) {mo : EM Opd} {ms mk : EM (List Opd)} {e e1 e2 e3 : En} {o : Opd} (h1 : mo e = .ok o e1) (ho : o.look e1 = some (.cls "Range")) (h2 : ms e1 = .ok [] e2) (h3 : mk e2 = .ok [] e3) :
    makeM [⟨"Range", E_Range___init__ fq⟩] 0 [] mo ms mk e = .ok (.own (rgO (jn "or" [] []))) e3 := by
  obtain ⟨e', E⟩ := init_eq F.st (Sq.tup (s := [])) (fun p hp => by cases hp) (by simp)
  have fm : findM [⟨"Range", E_Range___init__ fq⟩] "Range" "__init__" (0 + 1) [] = some (⟨"Range", E_Range___init__ fq⟩, sh_Range___init___1) := findM_one rfl rfl
  have mk' : makeE (sem_Range___init__ fq) "Range" (fun i => pick sh_Range___init___1.src (.slot i :: []) [] (sh_Range___init___1.dfl.map .pv)) e3 = .ok (.own (rgO (jn "or" [] []))) e3 := makeE_pvs (ps := [.tup []]) rfl E
  unfold makeM EM.bind
  simp only [h1, lookM_app, ho]
  unfold makeK
  dsimp only
  rw [fm]
  dsimp only
  unfold EM.bind
  simp only [h2, h3]
  unfold makeS
  rw [if_pos (by rfl)]
  exact mk'
/-- joined with nothing: as it was -/
theorem jn_id {b : Int} {s : Sts} (h : Canon b s) (hs : OkS s) : jn "or" s [] = s := by
  obtain ⟨h1, h2⟩ := jn_spec (w := "or") (.inr (.inl rfl)) (s := s) (t := []) (b := 1000000000) hs.bnds (fun z hz => by cases hz)
  refine canon_ext h1 h fun x => ?_
  rw [h2]
  unfold wf
  rw [if_neg (by decide +kernel), if_pos rfl]
  show (hasN s x || false) = _
  simp
end PG

namespace PG
open PySem L2 QB RM
variable {fq : List Fq}
theorem bld_len {p : Int → Bool} : ∀ (es : List Int), 2 * (bld p none es).length ≤ es.length + 1 ∧ ∀ l, 2 * (bld p (some l) es).length ≤ es.length + 2
  | [] => ⟨by simp [bld], fun l => by simp [bld]⟩
  | e :: es => by
    obtain ⟨h1, h2⟩ := bld_len (p := p) es
    refine ⟨?_, fun l => ?_⟩
    · cases h : p e
      · simp [bld, h]; omega
      · simp only [bld, h, if_true]; have := h2 e; simp; omega
    · cases h : p e
      · simp [bld, h]; omega
      · simp only [bld, h, if_true]; have := h2 l; simp; omega
theorem jn_len {w : Str} {s t : Sts} : (jn w s t).length ≤ s.length + t.length + 1 := by
  unfold jn
  rw [build_bld]
  have h := (bld_len (p := pj w s t) (edg s t)).1
  have b1 := bnds_len (s := s)
  have b2 := bnds_len (s := t)
  have el : (edg s t).length = (bnds s).length + (bnds t).length := by unfold edg; rw [(sortI_perm _).length_eq, List.length_append]
  omega
/-- the stretches of a range -/
abbrev Rg (s : Sts) : Prop := Canon 1000000000 s
theorem Rg.ok {s : Sts} (h : Rg s) : OkS s := Canon.ok h (Int.le_refl _)
theorem jn_rg {w : Str} (hw : Wd w) {s t : Sts} (hs : OkS s) (ht : OkS t) : Rg (jn w s t) := (jn_spec hw hs.bnds ht.bnds).1
theorem jn_has {w : Str} (hw : Wd w) {s t : Sts} (hs : OkS s) (ht : OkS t) (x : Int) : hasN (jn w s t) x = wf w (hasN s x) (hasN t x) := (jn_spec hw hs.bnds ht.bnds).2 x
theorem rg_id {s : Sts} (h : Rg s) : jn "or" s [] = s := jn_id h h.ok
theorem isi_rg {s : Sts} (F : FqG fq) : isiP fq [.oc "Range"] (rg s) = some true := F.is
theorem attr_rg {prs : List MethE} {od : Opd} {s : Sts} {e : En} (F : FqG fq) : attrK fq prs "stretches" od (rg s) e = .ok (.val (.tup (enS s))) e := by
  show (if noatT fq "Range" "stretches" then (EM.opt ((["stretches"].zip [PV.tup (enS s)]).lookup "stretches")).bind fun p => EM.ret (RV.val p) else match findP prs "Range" "stretches" with
    | some e => (callE e.E.sem [od]).calm
    | none => EM.bad) e = _
  rw [if_pos F.st]
  rfl
theorem attrM_at {prs : List MethE} {i : Nat} {s : Sts} {e : En} {sl : Slot} (F : FqG fq) (h : e[i]? = some (some sl)) (hs : sl.pvo = some (rg s)) : attrM fq prs "stretches" (slotM i) e = .ok (.val (.tup (enS s))) e := by
  unfold attrM EM.bind
  simp only [slotM_app, h, lookM_app, look_slot, hs]
  exact attr_rg F
theorem op_core (F : FqG fq) {w : Str} (hw : Wd w) {s t : Sts} (hs : Rg s) (ht : Rg t) (hl : s.length ≤ 400) (hl' : t.length ≤ 400) : makeM [⟨"Range", (E_Range___init__ fq)⟩] 1 [] (opdM (EM.ret (.val (.cls "Range")))) (opdsCons (opdM (callM sem_joined 3 sh_joined_0 (opdsCons (opdM (EM.ret (.val (.str w)))) (opdsCons (opdM (attrM fq [] "stretches" (slotM 0))) (opdsCons (opdM (attrM fq [] "stretches" (slotM 1))) opdsNil))) opdsNil)) opdsNil) opdsNil [some (.val (rg s)), some (.val (rg t))] = .ok (.own (rgO (jn w s t))) [some (.val (rg s)), some (.val (rg t))] := by
  obtain ⟨e1, E1⟩ := joined_eq hw (q := .tup (enS s)) (r := .tup (enS t)) (s := s) (t := t) rfl rfl rfl rfl (by omega) (by omega)
  have a0 : attrM fq [] "stretches" (slotM 0) [some (.val (rg s)), some (.val (rg t))] = .ok (.val (.tup (enS s))) [some (.val (rg s)), some (.val (rg t))] := attrM_at F rfl rfl
  have a1 : attrM fq [] "stretches" (slotM 1) [some (.val (rg s)), some (.val (rg t))] = .ok (.val (.tup (enS t))) [some (.val (rg s)), some (.val (rg t))] := attrM_at F rfl rfl
  have hj := jn_len (w := w) (s := s) (t := t)
  have := make2 F (Sq.tup (s := jn w s t)) (jn_rg hw hs.ok ht.ok).ok (by omega) (mo := opdM (EM.ret (.val (.cls "Range")))) (ms := opdsCons (opdM (callM sem_joined 3 sh_joined_0 (opdsCons (opdM (EM.ret (.val (.str w)))) (opdsCons (opdM (attrM fq [] "stretches" (slotM 0))) (opdsCons (opdM (attrM fq [] "stretches" (slotM 1))) opdsNil))) opdsNil)) opdsNil) (mk := opdsNil) (e := [some (.val (rg s)), some (.val (rg t))]) (e1 := [some (.val (rg s)), some (.val (rg t))]) (e2 := [some (.val (rg s)), some (.val (rg t))]) (e3 := [some (.val (rg s)), some (.val (rg t))]) (o := .pv (.cls "Range")) (by simp) rfl (by simp [a0, a1, sh_joined_0, pick, Src.get, E1]) rfl
  rw [rg_id (jn_rg hw hs.ok ht.ok)] at this
  exact this
theorem and_eq (F : FqG fq) {s t : Sts} (hs : Rg s) (ht : Rg t) (hl : s.length ≤ 400) (hl' : t.length ≤ 400) : ∃ e, sem_Range___and__ fq [.val (rg s), .val (rg t)] = .ret (.own (rgO (jn "and" s t))) e := by
  have C := op_core F (.inl rfl) hs ht hl hl'
  have I := isi_rg (s := t) F
  simp [sem_Range___and__, m_Range___and__, I, C]
theorem or_eq (F : FqG fq) {s t : Sts} (hs : Rg s) (ht : Rg t) (hl : s.length ≤ 400) (hl' : t.length ≤ 400) : ∃ e, sem_Range___or__ fq [.val (rg s), .val (rg t)] = .ret (.own (rgO (jn "or" s t))) e := by
  have C := op_core F (.inr (.inl rfl)) hs ht hl hl'
  have I := isi_rg (s := t) F
  simp [sem_Range___or__, m_Range___or__, I, C]
theorem sub_eq (F : FqG fq) {s t : Sts} (hs : Rg s) (ht : Rg t) (hl : s.length ≤ 400) (hl' : t.length ≤ 400) : ∃ e, sem_Range___sub__ fq [.val (rg s), .val (rg t)] = .ret (.own (rgO (jn "less" s t))) e := by
  have C := op_core F (.inr (.inr (.inl rfl))) hs ht hl hl'
  have I := isi_rg (s := t) F
  simp [sem_Range___sub__, m_Range___sub__, I, C]
theorem xor_eq (F : FqG fq) {s t : Sts} (hs : Rg s) (ht : Rg t) (hl : s.length ≤ 400) (hl' : t.length ≤ 400) : ∃ e, sem_Range___xor__ fq [.val (rg s), .val (rg t)] = .ret (.own (rgO (jn "unlike" s t))) e := by
  have C := op_core F (.inr (.inr (.inr rfl))) hs ht hl hl'
  have I := isi_rg (s := t) F
  simp [sem_Range___xor__, m_Range___xor__, I, C]
theorem eq_eq (F : FqG fq) {s t : Sts} : ∃ e, sem_Range___eq__ fq [.val (rg s), .val (rg t)] = .ret (.val (.bl (decide (s = t)))) e := by
  have I := isi_rg (s := t) F
  have a0 : attrM fq [] "stretches" (slotM 0) [some (.val (rg s)), some (.val (rg t))] = .ok (.val (.tup (enS s))) [some (.val (rg s)), some (.val (rg t))] := attrM_at F rfl rfl
  have a1 : attrM fq [] "stretches" (slotM 1) [some (.val (rg s)), some (.val (rg t))] = .ok (.val (.tup (enS t))) [some (.val (rg s)), some (.val (rg t))] := attrM_at F rfl rfl
  simp [sem_Range___eq__, m_Range___eq__, I, a0, a1]
theorem le_eq (F : FqG fq) {s t : Sts} (hl : s.length ≤ 400) (hl' : t.length ≤ 400) : ∃ e, sem_Range___le__ fq [.val (rg s), .val (rg t)] = .ret (.val (.bl (decide (jn "less" s t = [])))) e := by
  have I := isi_rg (s := t) F
  have a0 : attrM fq [] "stretches" (slotM 0) [some (.val (rg s)), some (.val (rg t))] = .ok (.val (.tup (enS s))) [some (.val (rg s)), some (.val (rg t))] := attrM_at F rfl rfl
  have a1 : attrM fq [] "stretches" (slotM 1) [some (.val (rg s)), some (.val (rg t))] = .ok (.val (.tup (enS t))) [some (.val (rg s)), some (.val (rg t))] := attrM_at F rfl rfl
  obtain ⟨e1, E1⟩ := joined_eq (.inr (.inr (.inl rfl)) : Wd "less") (q := .tup (enS s)) (r := .tup (enS t)) (s := s) (t := t) rfl rfl rfl rfl (by omega) (by omega)
  simp [sem_Range___le__, m_Range___le__, I, a0, a1, sh_joined_0, pick, Src.get, E1]
end PG

namespace PG
open PySem L2 QB RM
variable {fq : List Fq}
def wh : Sts := [(1000000000, none)]
theorem wh_rg : Rg wh := .last (Int.le_refl _)
theorem whole_en : c_WHOLE = .tup (enS wh) := by
  simp [c_WHOLE, enS, enP, enO, enc, wh]
theorem first_en : c_FIRST = enc 1000000000 := by
  simp [c_FIRST, enc]
theorem eqP_enc {m n : Int} : eqP (enc m) (enc n) = some (decide (m = n)) := by
  unfold eqP
  rw [data_enc, data_enc]
  dsimp only
  have : shp (dE m) = true := rfl
  have h2 : shp (dE n) = true := rfl
  rw [this, h2, eqv_dE]
  rfl
@[simp] theorem c_eq_enc {m n : Int} {e : En} : opC .Eq (enc m) (enc n) e = .ok (.val (.bl (decide (m = n)))) e := by
  rw [opEq_app, eqP_enc]
@[simp] theorem c_ne_enc {m n : Int} {e : En} : opC .NotEq (enc m) (enc n) e = .ok (.val (.bl (!decide (m = n)))) e := by
  rw [opNe_app, eqP_enc]
/-- cls(..) -/
theorem cmk {q : PV} {s : Sts} (F : FqG fq) (hq : Sq q s) (hs : Rg s) (hl : s.length ≤ 1000) {ms : EM (List Opd)} {r : En} (hm : ms (some (.val (.cls "Range")) :: r) = .ok [.pv q] (some (.val (.cls "Range")) :: r)) :
    makeM [⟨"Range", E_Range___init__ fq⟩] 1 [] (slotM 0) ms opdsNil (some (.val (.cls "Range")) :: r) = .ok (.own (rgO s)) (some (.val (.cls "Range")) :: r) := by
  have := make2 F hq hs.ok hl (mo := slotM 0) (ms := ms) (mk := opdsNil) (e := some (.val (.cls "Range")) :: r) (e1 := some (.val (.cls "Range")) :: r) (e2 := some (.val (.cls "Range")) :: r) (e3 := some (.val (.cls "Range")) :: r) (o := .slot 0) (by simp) (by simp) hm rfl
  rw [rg_id hs] at this
  exact this
theorem every_eq (F : FqG fq) : ∃ e, sem_Range_every fq [.val (.cls "Range")] = .ret (.own (rgO wh)) e := by
  have C := cmk (r := []) F (Sq.tup (s := wh)) wh_rg (by decide) (ms := opdsCons (opdM (EM.ret (.val c_WHOLE))) opdsNil) (by simp [whole_en])
  simp [sem_Range_every, m_Range_every, C]
theorem nothing_eq (F : FqG fq) : ∃ e, sem_Range_nothing fq [.val (.cls "Range")] = .ret (.own (rgO [])) e := by
  have C := make1 F (mo := slotM 0) (ms := opdsNil) (mk := opdsNil) (e := [some (.val (.cls "Range"))]) (e1 := [some (.val (.cls "Range"))]) (e2 := [some (.val (.cls "Range"))]) (e3 := [some (.val (.cls "Range"))]) (o := .slot 0) (by simp) (by simp) rfl rfl
  rw [rg_id (s := []) .nil] at C
  simp [sem_Range_nothing, m_Range_nothing, C]
theorem only_eq (F : FqG fq) {n : Int} (h : 1000000000 ≤ n) (h2 : n % 1000000000 < 999999999) : ∃ e, sem_Range_only fq [.val (.cls "Range"), .val (enc n)] = .ret (.own (rgO [(n, some (n + 1))])) e := by
  have en : enc (n + 1) = .tup [.int (n / 1000000000), .int (n % 1000000000 + 1)] := by unfold enc; congr 3 <;> first | omega | (congr 1; omega)
  have C := cmk (r := [some (.val (enc n))]) F (Sq.lst (s := [(n, some (n + 1))])) (.cons h (by omega) .nil) (by simp) (ms := opdsCons (opdM (lstM (valsCons (tupM (valsCons (getM 1) (valsCons (tupM (valsCons (ixM (slotM 1) (opdM (EM.ret (.val (.int 0))))) (valsCons (two (opdM (ixM (slotM 1) (opdM (EM.ret (.val (.int 1)))))) (opdM (EM.ret (.val (.int 1)))) (opB .Add)) valsNil))) valsNil))) valsNil))) opdsNil) (by
    simp [enS, enP, enO, en])
  simp [sem_Range_only, m_Range_only, C]
theorem series_eq (F : FqG fq) {a : Int} (h : 1 ≤ a) : ∃ e, sem_Range_series fq [.val (.cls "Range"), .val (.int a)] = .ret (.own (rgO [(a * 1000000000, some ((a + 1) * 1000000000))])) e := by
  have e1 : enc (a * 1000000000) = .tup [.int a, .int 0] := by unfold enc; congr 3 <;> first | omega | (congr 1; omega)
  have e2 : enc ((a + 1) * 1000000000) = .tup [.int (a + 1), .int 0] := by unfold enc; congr 3 <;> first | omega | (congr 1; omega)
  have C := cmk (r := [some (.val (.int a))]) F (Sq.lst (s := [(a * 1000000000, some ((a + 1) * 1000000000))])) (.cons (by omega) (by omega) .nil) (by simp) (ms := opdsCons (opdM (lstM (valsCons (tupM (valsCons (tupM (valsCons (getM 1) (valsCons (EM.ret (.val (.int 0))) valsNil))) (valsCons (tupM (valsCons (two (slotM 1) (opdM (EM.ret (.val (.int 1)))) (opB .Add)) (valsCons (EM.ret (.val (.int 0))) valsNil))) valsNil))) valsNil))) opdsNil) (by
    simp [enS, enP, enO, e1, e2])
  simp [sem_Range_series, m_Range_series, C]
theorem from_eq (F : FqG fq) {n : Int} (h : 1000000000 ≤ n) : ∃ e, sem_Range_from_on fq [.val (.cls "Range"), .val (enc n)] = .ret (.own (rgO [(n, none)])) e := by
  have C := cmk (r := [some (.val (enc n))]) F (Sq.lst (s := [(n, none)])) (.last h) (by simp) (ms := opdsCons (opdM (lstM (valsCons (tupM (valsCons (getM 1) (valsCons (EM.ret (.val .non)) valsNil))) valsNil))) opdsNil) (by
    simp [enS, enP, enO])
  simp [sem_Range_from_on, m_Range_from_on, C]
def bef (n : Int) : Sts := if n = 1000000000 then [] else [(1000000000, some n)]
theorem bef_rg {n : Int} (h : 1000000000 ≤ n) : Rg (bef n) := by
  unfold bef
  split
  · exact .nil
  · exact .cons (Int.le_refl _) (by omega) .nil
theorem before_eq (F : FqG fq) {n : Int} (h : 1000000000 ≤ n) : ∃ e, sem_Range_before fq [.val (.cls "Range"), .val (enc n)] = .ret (.own (rgO (bef n))) e := by
  have C := cmk (r := [some (.val (enc n))]) F (Sq.lst (s := bef n)) (bef_rg h) (by unfold bef; split <;> simp) (ms := opdsCons (opdM (iteM (boolM (two (slotM 1) (opdM (EM.ret (.val c_FIRST))) (opC .NotEq))) (lstM (valsCons (tupM (valsCons (EM.ret (.val c_FIRST)) (valsCons (getM 1) valsNil))) valsNil)) (lstM valsNil))) opdsNil) (by
    by_cases hn : n = 1000000000 <;> simp [first_en, hn, bef, enS, enP, enO])
  simp [sem_Range_before, m_Range_before, C]
theorem least_eq (F : FqG fq) {s : Sts} : ∃ e, sem_Range_least fq [.val (rg s)] = .ret (.val (match s with
    | [] => .non
    | p :: _ => enc p.1)) e := by
  have a0 : attrM fq [] "stretches" (slotM 0) [some (.val (rg s))] = .ok (.val (.tup (enS s))) [some (.val (rg s))] := attrM_at F rfl rfl
  cases s with
  | nil => simp [sem_Range_least, m_Range_least, a0]
  | cons p s =>
    have i0 : ixP (.tup (enS (p :: s))) (.int 0) = some (enP p) := by simp [enS]
    have i1 : ixP (enP p) (.int 0) = some (enc p.1) := by simp [enP]
    simp [sem_Range_least, m_Range_least, a0, i0, i1]
theorem len_eq (F : FqG fq) {s : Sts} : ∃ e, sem_Range___len__ fq [.val (rg s)] = .ret (.val (.int s.length)) e := by
  have a0 : attrM fq [] "stretches" (slotM 0) [some (.val (rg s))] = .ok (.val (.tup (enS s))) [some (.val (rg s))] := attrM_at F rfl rfl
  simp [sem_Range___len__, m_Range___len__, a0, enS]
theorem bool_eq (F : FqG fq) {s : Sts} : ∃ e, sem_Range___bool__ fq [.val (rg s)] = .ret (.val (.bl (!s.isEmpty))) e := by
  have a0 : attrM fq [] "stretches" (slotM 0) [some (.val (rg s))] = .ok (.val (.tup (enS s))) [some (.val (rg s))] := attrM_at F rfl rfl
  have b0 : ∀ e : En, boolX [] [.pv (.tup (enS s))] e = .ok (.val (.bl (!s.isEmpty))) e := fun e => by
    show retB (!(enS s).isEmpty) e = _
    cases s <;> rfl
  simp [sem_Range___bool__, m_Range___bool__, a0, b0]
end PG

namespace PG
open PySem L2 QB RM
variable {fq : List Fq}
/-! ### texts of releases, stretches, ranges -/
def tx (n : Int) : Str := numS (n / 1000000000) ++ Str.ofString "." ++ numS (n % 1000000000)
def Sm (n : Int) : Prop := 1000000000 ≤ n ∧ n < 1000000000000000000
theorem tx_len {n : Int} (h : Sm n) : (tx n).length ≤ 19 := by
  obtain ⟨h1, h2⟩ := h
  have l1 := len_num (i := n / 1000000000) (k := 9) (by omega) (by omega) (by omega)
  have l2 := len_num (i := n % 1000000000) (k := 9) (by omega) (by omega) (by omega)
  have l0 : (Str.ofString ".").length = 1 := by decide +kernel
  unfold tx
  rw [len_app, len_app]
  omega
theorem tx_ok {n : Int} : PyData.strOk (tx n) = true := strOk_app (strOk_app strOk_num (strOk_of _)) strOk_num
theorem rtext_eq {n : Int} (h : Sm n) : ∃ e, sem_release_text [.val (enc n)] = .ret (.val (.str (tx n))) e := by
  obtain ⟨h1, h2⟩ := h
  have n1 := numOk_of (i := n / 1000000000) (by omega) (by omega)
  have n2 := numOk_of (i := n % 1000000000) (by omega) (by omega)
  have l1 := len_num (i := n / 1000000000) (k := 9) (by omega) (by omega) (by omega)
  have l2 := len_num (i := n % 1000000000) (k := 9) (by omega) (by omega) (by omega)
  have l0 : (Str.ofString ".").length = 1 := by decide +kernel
  have z1 : (numS (n / 1000000000)).length ≤ 16777216 := by omega
  have z2 : (numS (n / 1000000000) ++ Str.ofString ".").length ≤ 16777216 := by rw [len_app]; omega
  have z3 : (numS (n / 1000000000) ++ Str.ofString "." ++ numS (n % 1000000000)).length ≤ 16777216 := by rw [len_app, len_app]; omega
  simp [sem_release_text, m_release_text, n1, n2, z1, z2, z3, tx]
def stx (p : Int × Option Int) : Str := match p.2 with
  | none => Str.ofString ">=" ++ tx p.1
  | some k => if p.1 = 1000000000 then Str.ofString "<" ++ tx k else Str.ofString ">=" ++ tx p.1 ++ Str.ofString " <" ++ tx k
def SmP (p : Int × Option Int) : Prop := Sm p.1 ∧ ∀ k, p.2 = some k → Sm k
theorem stx_len {p : Int × Option Int} (h : SmP p) : (stx p).length ≤ 50 := by
  obtain ⟨l, o⟩ := p
  obtain ⟨h1, h2⟩ := h
  have a := tx_len (show Sm l from h1)
  have c1 : (Str.ofString ">=").length = 2 := by decide +kernel
  have c2 : (Str.ofString "<").length = 1 := by decide +kernel
  have c3 : (Str.ofString " <").length = 2 := by decide +kernel
  unfold stx
  cases o with
  | none => dsimp only; rw [len_app]; omega
  | some k =>
    have b := tx_len (h2 k rfl)
    dsimp only
    split
    · rw [len_app]; omega
    · rw [len_app, len_app, len_app]; omega
theorem stx_ok {p : Int × Option Int} : PyData.strOk (stx p) = true := by
  unfold stx
  split
  · exact strOk_app (strOk_of _) tx_ok
  · split
    · exact strOk_app (strOk_of _) tx_ok
    · exact strOk_app (strOk_app (strOk_app (strOk_of _) tx_ok) (strOk_of _)) tx_ok
theorem stext_eq {p : Int × Option Int} (h : SmP p) : ∃ e, sem_stretch_text [.val (enP p)] = .ret (.val (.str (stx p))) e := by
  obtain ⟨l, o⟩ := p
  obtain ⟨h1, h2⟩ := h
  obtain ⟨e1, E1⟩ := rtext_eq (show Sm l from h1)
  have a := tx_len (show Sm l from h1)
  have c1 : (Str.ofString ">=").length = 2 := by decide +kernel
  have c2 : (Str.ofString "<").length = 1 := by decide +kernel
  have c3 : (Str.ofString " <").length = 2 := by decide +kernel
  have z1 : (tx l).length ≤ 16777216 := by omega
  have z2 : (Str.ofString ">=" ++ tx l).length ≤ 16777216 := by rw [len_app]; omega
  have z0 : (Str.ofString ">=").length ≤ 16777216 := by omega
  have z00 : (Str.ofString "<").length ≤ 16777216 := by omega
  cases o with
  | none => simp [sem_stretch_text, m_stretch_text, enP, enO, sh_release_text_0, pick, Src.get, E1, z0, z1, z2, stx]
  | some k =>
    obtain ⟨e2, E2⟩ := rtext_eq (h2 k rfl)
    have b := tx_len (h2 k rfl)
    have z3 : (tx k).length ≤ 16777216 := by omega
    have z4 : (Str.ofString "<" ++ tx k).length ≤ 16777216 := by rw [len_app]; omega
    have z5 : (Str.ofString ">=" ++ tx l ++ Str.ofString " <").length ≤ 16777216 := by rw [len_app, len_app]; omega
    have z6 : (Str.ofString ">=" ++ tx l ++ Str.ofString " <" ++ tx k).length ≤ 16777216 := by rw [len_app, len_app, len_app]; omega
    by_cases hf : l = 1000000000
    · subst hf
      simp [sem_stretch_text, m_stretch_text, enP, enO, first_en, sh_release_text_0, pick, Src.get, E1, E2, z00, z3, z4, stx]
    · simp [sem_stretch_text, m_stretch_text, enP, enO, first_en, hf, sh_release_text_0, pick, Src.get, E1, E2, z0, z1, z2, z3, z5, z6, stx]
theorem strsOf_map : ∀ {ys : List Str}, strsOf (ys.map PV.str) = some ys
  | [] => rfl
  | y :: ys => by
    show (strsOf (ys.map PV.str)).map (y :: ·) = _
    rw [strsOf_map]
    rfl
theorem joinP_l {a : Str} {ys : List Str} {e : En} (h : (ys.map (·.length)).sum + ys.length * a.length ≤ 16777216) : joinP a (.lst (ys.map PV.str)) e = .ok (.val (.str (Txt.join a ys))) e := by
  show ((EM.opt (strsOf (ys.map PV.str))).bind fun ys => if decide ((ys.map (·.length)).sum + ys.length * a.length ≤ 16777216) then EM.ret (RV.val (PV.str (Txt.join a ys))) else EM.bad) e = _
  rw [strsOf_map]
  show (if decide ((ys.map (·.length)).sum + ys.length * a.length ≤ 16777216) = true then EM.ret (RV.val (PV.str (Txt.join a ys))) else EM.bad) e = _
  rw [if_pos (decide_eq_true h)]
  rfl
theorem sum_le : ∀ {ys : List Str} {k : Nat}, (∀ y ∈ ys, y.length ≤ k) → (ys.map (·.length)).sum ≤ ys.length * k
  | [], _, _ => by simp
  | y :: ys, k, h => by
    have := sum_le (ys := ys) fun z hz => h z (List.mem_cons_of_mem _ hz)
    have h1 := h y List.mem_cons_self
    simp only [List.map_cons, List.sum_cons, List.length_cons]
    rw [Nat.succ_mul]
    omega
/-- a range's text -/
def rtx (s : Sts) : Str := if s = [] then "none" else if s = wh then "all" else Txt.join " or " (s.map stx)
def SmS (s : Sts) : Prop := ∀ p ∈ s, SmP p
theorem str_eq (F : FqG fq) {s : Sts} (h : SmS s) (hl : s.length ≤ 1000) : ∃ e, sem_Range___str__ fq [.val (rg s)] = .ret (.val (.str (rtx s))) e := by
  have a0 : ∀ x : Option Slot, attrM fq [] "stretches" (slotM 0) [some (.val (rg s)), x] = .ok (.val (.tup (enS s))) [some (.val (rg s)), x] := fun x => attrM_at F rfl rfl
  have lp : lcLoop (lcTurn (bndNm 1) (EM.ret true) [1] (eltM (e_Range___str___0 fq))) (s.map enP) [some (.val (rg s)), none] = .ok (s.map fun p => .str (stx p)) [some (.val (rg s)), none] := by
    refine lcLoop_mapF fun p hp => ?_
    obtain ⟨e1, E1⟩ := stext_eq (h p hp)
    simp [e_Range___str___0, sh_stretch_text_0, pick, Src.get, E1]
  have em : (s.map fun p => PV.str (stx p)) = (s.map stx).map PV.str := by rw [List.map_map]; rfl
  rw [em] at lp
  have l4 : (Str.ofString " or ").length = 4 := by decide +kernel
  have sl := sum_le (ys := s.map stx) (k := 50) fun y hy => by
    obtain ⟨p, hp, rfl⟩ := List.mem_map.mp hy
    exact stx_len (h p hp)
  have J : ∀ e : En, joinP (Str.ofString " or ") (.lst ((s.map stx).map PV.str)) e = .ok (.val (.str (Txt.join " or " (s.map stx)))) e := fun e => joinP_l (by rw [l4]; rw [List.length_map] at sl ⊢; omega)
  have sz : s.length ≤ 16777216 := by omega
  have it : itemsOf (.tup (enS s)) = some (s.map enP) := rfl
  have c0 : ∀ e : En, opC .Eq (.tup (enS s)) (.tup []) e = .ok (.val (.bl (decide (s = [])))) e := fun e => c_eq_t0
  have c1 : ∀ e : En, opC .Eq (.tup (enS s)) (.tup (enS wh)) e = .ok (.val (.bl (decide (s = wh)))) e := fun e => c_eq_tt
  unfold rtx
  by_cases h0 : s = []
  · rw [decide_eq_true h0] at c0
    rw [if_pos h0]
    simp [sem_Range___str__, m_Range___str__, a0, c0, -c_eq_t0]
  · rw [decide_eq_false h0] at c0
    rw [if_neg h0]
    by_cases h1 : s = wh
    · rw [decide_eq_true h1] at c1
      rw [if_pos h1]
      simp [sem_Range___str__, m_Range___str__, a0, c0, c1, whole_en, -c_eq_t0, -c_eq_tt]
    · rw [decide_eq_false h1] at c1
      rw [if_neg h1]
      simp [sem_Range___str__, m_Range___str__, a0, c0, c1, whole_en, it, lp, sz, J, -c_eq_t0, -c_eq_tt, -List.map_map]
end PG

namespace PG
open PySem L2 QB RM
variable {fq : List Fq}
theorem b_mul_l {xs : List PV} {b : Bool} {e : En} (h : xs.length ≤ 1000) : opB .Mult (.lst xs) (.int (if b then 1 else 0)) e = .ok (.own (.lst (if b then xs else []))) e := by
  show opMul (.lst xs) (.int (if b then 1 else 0)) e = _
  cases b
  · show (if decide ((0 : Int) ≤ 0 ∧ (0 : Int) < 2 ^ 63) && szOk (xs.length * 0) then EM.ret (RV.own (.lst (List.replicate 0 xs).flatten)) else EM.bad) e = _
    have : szOk (xs.length * 0) = true := by rw [szOk_lit]; simp
    rw [this]
    rfl
  · show (if decide ((0 : Int) ≤ 1 ∧ (1 : Int) < 2 ^ 63) && szOk (xs.length * 1) then EM.ret (RV.own (.lst (List.replicate 1 xs).flatten)) else EM.bad) e = _
    have : szOk (xs.length * 1) = true := by rw [szOk_lit]; exact decide_eq_true (by omega)
    rw [this]
    simp
theorem lrt_eq {n : Int} (h : Sm n) : ∃ e, sem__law_release_text [.val (enc n)] = .ret (.val (.str (tx n))) e := by
  obtain ⟨h1, h2⟩ := h
  have n1 := numOk_of (i := n / 1000000000) (by omega) (by omega)
  have n2 := numOk_of (i := n % 1000000000) (by omega) (by omega)
  have l1 := len_num (i := n / 1000000000) (k := 9) (by omega) (by omega) (by omega)
  have l2 := len_num (i := n % 1000000000) (k := 9) (by omega) (by omega) (by omega)
  have l0 : (Str.ofString ".").length = 1 := by decide +kernel
  have z2 : (numS (n / 1000000000)).length + (Str.ofString ".").length ≤ 16777216 := by omega
  have z3 : (numS (n / 1000000000) ++ Str.ofString ".").length + (numS (n % 1000000000)).length ≤ 16777216 := by rw [len_app]; omega
  simp [sem__law_release_text, m__law_release_text, n1, n2, z2, z3, tx]
theorem join1 {a x : Str} : Txt.join a [x] = x := by rw [TL.join_eq]; rfl
theorem join2 {a x y : Str} : Txt.join a [x, y] = x ++ a ++ y := by rw [TL.join_eq]; rfl
theorem sp_lt {x y : Str} : x ++ Str.ofString " " ++ (Str.ofString "<" ++ y) = x ++ Str.ofString " <" ++ y := by
  apply TL.ext_tl
  have : TL.tl (Str.ofString " <") = TL.tl (Str.ofString " ") ++ TL.tl (Str.ofString "<") := by decide +kernel
  simp only [TL.tl_append, this, List.append_assoc]
theorem wturn {q : PV} {f : List Str} {p : Int × Option Int} {x4 : Option Slot} (h : SmP p) (hf : f.length ≤ 10000) (h4 : pinO x4 = false) : ∃ y4, pinO y4 = false ∧
    l__law_range_text_2_0 [some (.val q), some (.own (.lst (f.map PV.str))), some (.val (enc p.1)), some (.val (enO p.2)), x4] = .nx [some (.val q), some (.own (.lst ((f ++ [stx p]).map PV.str))), some (.val (enc p.1)), some (.val (enO p.2)), y4] := by
  obtain ⟨l, o⟩ := p
  obtain ⟨h1, h2⟩ := h
  obtain ⟨e1, E1⟩ := lrt_eq (show Sm l from h1)
  have a := tx_len (show Sm l from h1)
  have c1 : (Str.ofString ">=").length = 2 := by decide +kernel
  have c2 : (Str.ofString "<").length = 1 := by decide +kernel
  have c4 : (Str.ofString " ").length = 1 := by decide +kernel
  have z1 : (Str.ofString ">=").length + (tx l).length ≤ 16777216 := by omega
  have fe : PV.tup [PV.int 1, PV.int 0] = enc 1000000000 := by simp [enc]
  have ap : ∀ p : PV, appX p (f.map PV.str) = some (f.map PV.str ++ [p], .val .non) := fun p => appX_of (by rw [List.length_map]; omega)
  cases o with
  | none =>
    have M : ∀ e : En, opB .Mult (.lst [PV.str (Str.ofString ">=" ++ tx l)]) (.int 1) e = .ok (.own (.lst [PV.str (Str.ofString ">=" ++ tx l)])) e := fun e => b_mul_l (b := true) (by simp)
    have J : ∀ e : En, joinP (Str.ofString " ") (.lst [PV.str (Str.ofString ">=" ++ tx l)]) e = .ok (.val (.str (Str.ofString ">=" ++ tx l))) e := fun e => by
      have := joinP_l (a := Str.ofString " ") (ys := [Str.ofString ">=" ++ tx l]) (e := e) (by simp [len_app]; omega)
      rw [join1] at this
      exact this
    by_cases hf : l = 1000000000
    · subst hf
      simp [l__law_range_text_2_0, sh__law_release_text_0, pick, Src.get, E1, z1, fe, enO, M, J, ap, h4, stx]
    · simp [l__law_range_text_2_0, sh__law_release_text_0, pick, Src.get, E1, z1, fe, enO, hf, M, J, ap, h4, stx]
  | some k =>
    obtain ⟨e2, E2⟩ := lrt_eq (h2 k rfl)
    have b := tx_len (h2 k rfl)
    have z2 : (Str.ofString "<").length + (tx k).length ≤ 16777216 := by omega
    by_cases hf : l = 1000000000
    · subst hf
      have M : ∀ e : En, opB .Mult (.lst [PV.str (Str.ofString ">=" ++ tx 1000000000)]) (.int 0) e = .ok (.own (.lst [])) e := fun e => b_mul_l (b := false) (by simp)
      have J : ∀ e : En, joinP (Str.ofString " ") (.lst [PV.str (Str.ofString "<" ++ tx k)]) e = .ok (.val (.str (Str.ofString "<" ++ tx k))) e := fun e => by
        have := joinP_l (a := Str.ofString " ") (ys := [Str.ofString "<" ++ tx k]) (e := e) (by simp [len_app]; omega)
        rw [join1] at this
        exact this
      simp [l__law_range_text_2_0, sh__law_release_text_0, pick, Src.get, E1, E2, z1, z2, fe, enO, M, J, ap, h4, stx]
    · have M : ∀ e : En, opB .Mult (.lst [PV.str (Str.ofString ">=" ++ tx l)]) (.int 1) e = .ok (.own (.lst [PV.str (Str.ofString ">=" ++ tx l)])) e := fun e => b_mul_l (b := true) (by simp)
      have J : ∀ e : En, joinP (Str.ofString " ") (.lst [PV.str (Str.ofString ">=" ++ tx l), PV.str (Str.ofString "<" ++ tx k)]) e = .ok (.val (.str (Str.ofString ">=" ++ tx l ++ Str.ofString " <" ++ tx k))) e := fun e => by
        have := joinP_l (a := Str.ofString " ") (ys := [Str.ofString ">=" ++ tx l, Str.ofString "<" ++ tx k]) (e := e) (by simp [len_app]; omega)
        rw [join2, sp_lt] at this
        exact this
      simp [l__law_range_text_2_0, sh__law_release_text_0, pick, Src.get, E1, E2, z1, z2, fe, enO, hf, M, J, ap, h4, stx]
end PG

namespace PG
open PySem L2 QB RM
variable {fq : List Fq}
theorem wloop {q : PV} : ∀ (s : Sts) {f : List Str} {x2 x3 x4 : Option Slot}, SmS s → f.length + s.length ≤ 10000 → pinO x2 = false → pinO x3 = false → pinO x4 = false →
    ∃ y2 y3 y4, loopM (bndTup [2, 3]) l__law_range_text_2_0 (s.map enP) [some (.val q), some (.own (.lst (f.map PV.str))), x2, x3, x4] = .nx [some (.val q), some (.own (.lst ((f ++ s.map stx).map PV.str))), y2, y3, y4]
  | [], f, x2, x3, x4, _, _, _, _, _ => ⟨x2, x3, x4, by simp [loopM]⟩
  | p :: s, f, x2, x3, x4, h, hl, h2, h3, h4 => by
    obtain ⟨y4, g4, T⟩ := wturn (q := q) (h p List.mem_cons_self) (f := f) (by simp at hl; omega) h4
    obtain ⟨z2, z3, z4, L⟩ := wloop (q := q) s (f := f ++ [stx p]) (x2 := some (.val (enc p.1))) (x3 := some (.val (enO p.2))) (x4 := y4) (fun r hr => h r (List.mem_cons_of_mem _ hr)) (by simp at hl ⊢; omega) rfl rfl g4
    refine ⟨z2, z3, z4, ?_⟩
    rw [List.map_cons]
    unfold loopM
    have b : bndTup [2, 3] (enP p) [some (.val q), some (.own (.lst (f.map PV.str))), x2, x3, x4] = some [some (.val q), some (.own (.lst (f.map PV.str))), some (.val (enc p.1)), some (.val (enO p.2)), x4] := by
      simp [enP, h2, h3]
    rw [b]
    dsimp only
    rw [T]
    dsimp only
    rw [L]
    simp
theorem ltext_eq {s : Sts} (h : SmS s) (hl : s.length ≤ 1000) : ∃ e, sem__law_range_text_2 [.val (.lst (enS s))] = .ret (.val (.str (rtx s))) e := by
  obtain ⟨y2, y3, y4, L⟩ := wloop (q := .lst (enS s)) s (f := []) (x2 := none) (x3 := none) (x4 := none) h (by simp; omega) rfl rfl rfl
  have l4 : (Str.ofString " or ").length = 4 := by decide +kernel
  have sl := sum_le (ys := s.map stx) (k := 50) fun y hy => by
    obtain ⟨p, hp, rfl⟩ := List.mem_map.mp hy
    exact stx_len (h p hp)
  have J : ∀ e : En, joinP (Str.ofString " or ") (.lst ((s.map stx).map PV.str)) e = .ok (.val (.str (Txt.join " or " (s.map stx)))) e := fun e => joinP_l (by rw [l4]; rw [List.length_map] at sl ⊢; omega)
  have we : PV.tup [PV.tup [PV.tup [PV.int 1, PV.int 0], PV.non]] = .tup (enS wh) := by simp [enS, enP, enO, enc, wh]
  have c1 : ∀ e : En, opC .Eq (.tup (enS s)) (.tup (enS wh)) e = .ok (.val (.bl (decide (s = wh)))) e := fun e => c_eq_tt
  have ln : ((enS s).length : Int) = s.length := by unfold enS; simp
  have it : itemsOf (.lst (enS s)) = some (s.map enP) := rfl
  have bt : ∀ e : En, bTuple [.lst (enS s)] e = .ok (.val (.tup (enS s))) e := fun e => rfl
  have L' : loopM (bndTup [2, 3]) l__law_range_text_2_0 (s.map enP) [some (.val (.lst (enS s))), some (.own (.lst [])), none, none, none] = .nx [some (.val (.lst (enS s))), some (.own (.lst ((s.map stx).map PV.str))), y2, y3, y4] := by
    have := L
    simp only [List.map_nil, List.nil_append] at this
    exact this
  unfold rtx
  by_cases h0 : s = []
  · subst h0
    have i1 : ixP (.lst [PV.str (Str.ofString "all"), PV.str (Str.ofString "none")]) (.int 1) = some (PV.str (Str.ofString "none")) := by simp
    simp [sem__law_range_text_2, m__law_range_text_2, enS]
  · rw [if_neg h0]
    have n0 : ¬ ((s.length : Int) = 0) := by
      intro z
      exact h0 (List.length_eq_zero_iff.mp (by omega))
    by_cases h1 : s = wh
    · rw [decide_eq_true h1] at c1
      rw [if_pos h1]
      simp [sem__law_range_text_2, m__law_range_text_2, ln, n0, h0, we, c1, bt, -c_eq_tt]
    · rw [decide_eq_false h1] at c1
      rw [if_neg h1]
      simp [sem__law_range_text_2, m__law_range_text_2, ln, n0, h0, we, c1, bt, it, L', J, -c_eq_tt, -List.map_map]
end PG

namespace PG
open PySem L2 QB
/-! ### texts of values: that they are there, and short -/
structure Rp (n : Nat) (d : PyData) : Prop where
  sh : d.showable = true
  di : d.hasDict = false
  dp : d.depth ≤ 20
  ok : PyData.strOk d.shown = true
  ln : d.shown.length ≤ n
structure RpA (n : Nat) (ds : List PyData) : Prop where
  sh : PyData.showableAll ds = true
  di : PyData.hasDictAll ds = false
  dp : PyData.depthAll ds ≤ 19
  ok : ∀ t ∈ PyData.shownAll ds, PyData.strOk t = true
  ln : ∀ t ∈ PyData.shownAll ds, t.length ≤ n
theorem shownAll_len : ∀ ds : List PyData, (PyData.shownAll ds).length = ds.length
  | [] => rfl
  | d :: ds => by
    show (PyData.shown d :: PyData.shownAll ds).length = _
    simp [shownAll_len ds]
theorem join_tx {a : Str} (ha : PyData.strOk a = true) : ∀ {ts : List Str} {n : Nat}, (∀ t ∈ ts, PyData.strOk t = true) → (∀ t ∈ ts, t.length ≤ n) → PyData.strOk (Str.join a ts) = true ∧ (Str.join a ts).length ≤ ts.length * (n + a.length)
  | [], n, _, _ => ⟨(by decide +kernel : PyData.strOk Str.empty = true), by show (0 : Nat) ≤ _; omega⟩
  | [x], n, h1, h2 => ⟨h1 x List.mem_cons_self, by
      have := h2 x List.mem_cons_self
      show x.length ≤ 1 * (n + a.length)
      omega⟩
  | x :: y :: r, n, h1, h2 => by
    obtain ⟨i1, i2⟩ := join_tx ha (ts := y :: r) (n := n) (fun t ht => h1 t (List.mem_cons_of_mem _ ht)) (fun t ht => h2 t (List.mem_cons_of_mem _ ht))
    have := h2 x List.mem_cons_self
    refine ⟨strOk_app (strOk_app (h1 x List.mem_cons_self) ha) i1, ?_⟩
    show (x ++ a ++ Str.join a (y :: r)).length ≤ (r.length + 1 + 1) * (n + a.length)
    rw [len_app, len_app]
    have e : (r.length + 1 + 1) * (n + a.length) = (y :: r).length * (n + a.length) + (n + a.length) := by rw [Nat.succ_mul]; rfl
    rw [e]
    omega
theorem RpA.nil {n : Nat} : RpA n [] := ⟨rfl, rfl, (by show 0 ≤ 19; decide), (fun t h => by cases h), (fun t h => by cases h)⟩
theorem RpA.cons {n : Nat} {d : PyData} {ds : List PyData} (h : Rp n d) (hd : d.depth ≤ 19) (t : RpA n ds) : RpA n (d :: ds) := by
  refine ⟨?_, ?_, ?_, fun x hx => ?_, fun x hx => ?_⟩
  · show (d.showable && PyData.showableAll ds) = true
    rw [h.sh, t.sh]; rfl
  · show (d.hasDict || PyData.hasDictAll ds) = false
    rw [h.di, t.di]; rfl
  · show max d.depth (PyData.depthAll ds) ≤ 19
    have := t.dp
    omega
  · rcases List.mem_cons.mp (show x ∈ PyData.shown d :: PyData.shownAll ds from hx) with rfl | hx
    · exact h.ok
    · exact t.ok x hx
  · rcases List.mem_cons.mp (show x ∈ PyData.shown d :: PyData.shownAll ds from hx) with rfl | hx
    · exact h.ln
    · exact t.ln x hx
theorem RpA.tup {n : Nat} {ds : List PyData} (h : RpA n ds) : Rp (ds.length * (n + 2) + 3) (.tuple ds) := by
  have sc : PyData.strOk (Str.ofString ", ") = true := strOk_of _
  have lc : (Str.ofString ", ").length = 2 := by decide +kernel
  obtain ⟨j1, j2⟩ := join_tx sc h.ok h.ln
  have c1 : (Str.ofString "(").length = 1 := by decide +kernel
  have c2 : (Str.ofString ",)").length = 2 := by decide +kernel
  have c3 : (Str.ofString ")").length = 1 := by decide +kernel
  have sl := shownAll_len ds
  have e : (PyData.tuple ds).shown = (Str.ofString "(") ++ Str.join (Str.ofString ", ") (PyData.shownAll ds) ++ Str.ofString (if (PyData.shownAll ds).length == 1 then ",)" else ")") := rfl
  refine ⟨h.sh, h.di, ?_, ?_, ?_⟩
  · show PyData.depthAll ds + 1 ≤ 20
    have := h.dp
    omega
  · rw [e]
    exact strOk_app (strOk_app (strOk_of _) j1) (strOk_of _)
  · rw [e, len_app, len_app]
    rw [lc, sl] at j2
    have : (Str.ofString (if (PyData.shownAll ds).length == 1 then ",)" else ")")).length ≤ 2 := by split <;> omega
    omega
theorem textFrom_tx : ∀ {ts : List Str} {k n : Nat} {acc : Str}, PyData.strOk acc = true → (∀ t ∈ ts, PyData.strOk t = true) → (∀ t ∈ ts, t.length ≤ n) → PyData.strOk (textFrom k acc ts) = true ∧ (textFrom k acc ts).length ≤ acc.length + ts.length * (n + 2)
  | [], k, n, acc, h0, _, _ => ⟨h0, by show acc.length ≤ _; omega⟩
  | t :: ts, k, n, acc, h0, h1, h2 => by
    have lc : (Str.ofString (if k > 0 then ", " else "")).length ≤ 2 := by split <;> decide +kernel
    obtain ⟨i1, i2⟩ := textFrom_tx (ts := ts) (k := k + 1) (n := n) (acc := acc ++ Str.ofString (if k > 0 then ", " else "") ++ t) (strOk_app (strOk_app h0 (strOk_of _)) (h1 t List.mem_cons_self)) (fun x hx => h1 x (List.mem_cons_of_mem _ hx)) (fun x hx => h2 x (List.mem_cons_of_mem _ hx))
    have := h2 t List.mem_cons_self
    refine ⟨i1, Nat.le_trans i2 ?_⟩
    rw [len_app, len_app, List.length_cons, Nat.succ_mul]
    omega
theorem RpA.lst {n : Nat} {ds : List PyData} (h : RpA n ds) : Rp (ds.length * (n + 2) + 3) (.list ds) := by
  obtain ⟨j1, j2⟩ := textFrom_tx (k := 0) (acc := Str.ofString "[") (strOk_of _) h.ok h.ln
  have c1 : (Str.ofString "[").length = 1 := by decide +kernel
  have c3 : (Str.ofString "]").length = 1 := by decide +kernel
  have sl := shownAll_len ds
  have e : (PyData.list ds).shown = textFrom 0 (Str.ofString "[") (PyData.shownAll ds) ++ Str.ofString "]" := rfl
  refine ⟨h.sh, h.di, ?_, ?_, ?_⟩
  · show PyData.depthAll ds + 1 ≤ 20
    have := h.dp
    omega
  · rw [e]
    exact strOk_app j1 (strOk_of _)
  · rw [e, len_app]
    rw [sl] at j2
    omega
theorem Rp.mono {n m : Nat} {d : PyData} (h : Rp n d) (hm : n ≤ m) : Rp m d := ⟨h.sh, h.di, h.dp, h.ok, Nat.le_trans h.ln hm⟩
theorem Rp.int {i : Int} (h0 : 0 ≤ i) (h1 : i < 1000000000000000000) : Rp 18 (.int i) := by
  have n1 := of_decide_eq_true (numOk_of (i := i) (by omega) (by omega))
  exact ⟨decide_eq_true n1, rfl, by show 0 ≤ 20; decide, strOk_num, len_num (i := i) (k := 18) h0 (by omega) (by omega)⟩
theorem Rp.non : Rp 4 .none := ⟨rfl, rfl, by show 0 ≤ 20; decide, strOk_of _, by decide +kernel⟩
theorem Rp.bl {b : Bool} : Rp 5 (.bool b) := ⟨rfl, rfl, by show 0 ≤ 20; decide, by cases b <;> decide +kernel, by cases b <;> decide +kernel⟩
/-- a value's text -/
theorem Rp.at {n : Nat} {d : PyData} {p : PV} (h : Rp n d) (hd : p.data = some d) (hn : n ≤ 16777216) : PyData.strOk d.shown = true ∧ ∀ e : En, bRepr [p] e = .ok (.val (.str d.shown)) e := by
  refine ⟨h.ok, fun e => ?_⟩
  rw [bRepr_app, hd]
  have : repOk d = true := by
    unfold repOk
    have s : szOk d.shown.length = true := by rw [szOk_lit]; exact decide_eq_true (by have := h.ln; omega)
    rw [h.sh, h.di, s, decide_eq_true (by have := h.dp; omega)]
    rfl
  simp [this]
end PG

namespace PG
open PySem L2 QB RM
variable {fq : List Fq} {tbl : List MethE} {e : En}
/-! ### operators where own classes are known -/
def isIns : PV → Bool
  | .ins _ _ _ => true
  | _ => false
theorem cmpX_plain {op : CmpOp} {a b : Opd} {x y : PV} (ha : a.look e = some x) (hb : b.look e = some y) (hx : isIns x = false) (hy : isIns y = false) : cmpX fq tbl op a b e = opC op x y e := by
  unfold cmpX EM.bind
  simp only [lookM_app, ha, hb]
  cases op <;> cases x <;> cases y <;> first | rfl | (cases hx; done) | (cases hy; done)
@[simp] theorem cmpX_ss {op : CmpOp} {x y : Str} : cmpX fq tbl op (.pv (.str x)) (.pv (.str y)) e = opC op (.str x) (.str y) e := cmpX_plain rfl rfl rfl rfl
theorem lenX_lst {a : Opd} {xs : List PV} (ha : a.look e = some (.lst xs)) : lenX tbl [a] e = .ok (.val (.int xs.length)) e := by
  show (EM.bind (lookM a) fun x => match x with
    | .ins c _ _ => intR (dunK tbl "__len__" [a] c) fun n => if decide (0 ≤ n ∧ n < 2 ^ 63) then EM.ret (RV.val (.int n)) else EM.bad
    | x => bLen [x]) e = _
  simp only [embind_app, lookM_app, ha]
  rfl
theorem lenX_rdl {a : Opd} {xs : List PV} (ha : a.look e = some (.rdl xs)) : lenX tbl [a] e = .ok (.val (.int xs.length)) e := by
  show (EM.bind (lookM a) fun x => match x with
    | .ins c _ _ => intR (dunK tbl "__len__" [a] c) fun n => if decide (0 ≤ n ∧ n < 2 ^ 63) then EM.ret (RV.val (.int n)) else EM.bad
    | x => bLen [x]) e = _
  simp only [embind_app, lookM_app, ha]
  rfl
/-- one operand, a range that stands still -/
structure At (e : En) (a : Opd) (s : Sts) : Prop where
  lk : a.look e = some (rg s)
  fz : frzO a e = .ok (.pv (rg s)) e
theorem At.slot {i : Nat} {s : Sts} (h : e[i]? = some (some (.val (rg s)))) : At e (.slot i) s := ⟨by simp [h], by simp [h]⟩
theorem At.pv {s : Sts} : At e (.pv (rg s)) s := ⟨rfl, rfl⟩
theorem dun1 {E : FnE} {dn : Str} {sh : Shape} {a : Opd} {s : Sts} {r : RV} {e' : En} (A : At e a s) (h : findM [⟨"Range", E⟩] "Range" dn 1 [] = some (⟨"Range", E⟩, sh)) (hs : sh = ⟨1, [], [.pos 0], []⟩) (hp : E.ps.length = 1) (hE : E.sem [.val (rg s)] = .ret r e') : dunK [⟨"Range", E⟩] dn [a] "Range" e = .ok r e := by
  subst hs
  rw [dunK_one (os := [a]) h]
  simp only [frzs_cons, A.fz, frzs_nil]
  simp [callK, hp, pick, Src.get, hE]
theorem dun2 {E : FnE} {dn : Str} {sh : Shape} {a b : Opd} {s t : Sts} {r : RV} {e' : En} (A : At e a s) (B : At e b t) (h : findM [⟨"Range", E⟩] "Range" dn 2 [] = some (⟨"Range", E⟩, sh)) (hs : sh = ⟨2, [], [.pos 0, .pos 1], []⟩) (hp : E.ps.length = 2) (hE : E.sem [.val (rg s), .val (rg t)] = .ret r e') : dunK [⟨"Range", E⟩] dn [a, b] "Range" e = .ok r e := by
  subst hs
  rw [dunK_one (os := [a, b]) h]
  simp only [frzs_cons, A.fz, B.fz, frzs_nil]
  simp [callK, hp, pick, Src.get, hE]
theorem lenX_rg (F : FqG fq) {a : Opd} {s : Sts} (A : At e a s) (hl : s.length ≤ 1000) : lenX [⟨"Range", E_Range___len__ fq⟩] [a] e = .ok (.val (.int s.length)) e := by
  obtain ⟨e1, E1⟩ := len_eq F (s := s)
  have d := dun1 (E := E_Range___len__ fq) (dn := "__len__") A (findM_one rfl rfl) rfl rfl E1
  show (EM.bind (lookM a) fun x => match x with
    | .ins c _ _ => intR (dunK [⟨"Range", E_Range___len__ fq⟩] "__len__" [a] c) fun n => if decide (0 ≤ n ∧ n < 2 ^ 63) then EM.ret (RV.val (.int n)) else EM.bad
    | x => bLen [x]) e = _
  simp only [embind_app, lookM_app, A.lk]
  show (intR (dunK [⟨"Range", E_Range___len__ fq⟩] "__len__" [a] "Range") fun n => if decide (0 ≤ n ∧ n < 2 ^ 63) then EM.ret (RV.val (.int n)) else EM.bad) e = _
  unfold intR EM.bind
  simp only [d]
  show (if decide (0 ≤ (s.length : Int) ∧ (s.length : Int) < 2 ^ 63) = true then EM.ret (RV.val (.int s.length)) else EM.bad) e = _
  rw [if_pos (decide_eq_true (by omega))]
  rfl
theorem strX_rg (F : FqG fq) {a : Opd} {s : Sts} (A : At e a s) (h : SmS s) (hl : s.length ≤ 1000) : strX [⟨"Range", E_Range___str__ fq⟩] [a] e = .ok (.val (.str (rtx s))) e := by
  obtain ⟨e1, E1⟩ := str_eq F h hl
  have d := dun1 (E := E_Range___str__ fq) (dn := "__str__") A (findM_one rfl rfl) rfl rfl E1
  show (EM.bind (lookM a) fun x => match x with
    | .ins c _ _ => strR (dunK [⟨"Range", E_Range___str__ fq⟩] "__str__" [a] c) fun n => EM.ret (RV.val (.str n))
    | x => bStr [x]) e = _
  simp only [embind_app, lookM_app, A.lk]
  show (strR (dunK [⟨"Range", E_Range___str__ fq⟩] "__str__" [a] "Range") fun n => EM.ret (RV.val (.str n))) e = _
  unfold strR EM.bind
  simp only [d]
  rfl
theorem boolX_rg (F : FqG fq) {a : Opd} {s : Sts} (A : At e a s) : boolX [⟨"Range", E_Range___bool__ fq⟩] [a] e = .ok (.val (.bl (!s.isEmpty))) e := by
  obtain ⟨e1, E1⟩ := bool_eq F (s := s)
  have d := dun1 (E := E_Range___bool__ fq) (dn := "__bool__") A (findM_one rfl rfl) rfl rfl E1
  show (EM.bind (lookM a) fun x => match x with
    | .ins c _ _ => boolR (dunK [⟨"Range", E_Range___bool__ fq⟩] "__bool__" [a] c) retB
    | .tup xs => retB (!xs.isEmpty)
    | .bl b => retB b
    | _ => EM.bad) e = _
  simp only [embind_app, lookM_app, A.lk]
  show (boolR (dunK [⟨"Range", E_Range___bool__ fq⟩] "__bool__" [a] "Range") retB) e = _
  unfold boolR EM.bind
  simp only [d]
  rfl
end PG

namespace PG
open PySem L2 QB RM
variable {fq : List Fq} {tbl : List MethE} {e : En}
/-! ### class methods called -/
theorem cm0 {E : FnE} {m : Str} {sh : Shape} {r : RV} {e' : En} (h : findM [⟨"Range", E⟩] "Range" m 1 [] = some (⟨"Range", E⟩, sh)) (hs : sh = ⟨1, [], [.pos 0], []⟩) (hp : E.ps.length = 1) (hE : E.sem [.val (.cls "Range")] = .ret r e') :
    cmethM [⟨"Range", E⟩] m 1 [] (opdM (EM.ret (.val (.cls "Range")))) opdsNil opdsNil e = .ok r e := by
  subst hs
  simp [cmethM, cmethK, h, callK, hp, pick, Src.get, hE]
theorem cm1 {E : FnE} {m : Str} {sh : Shape} {r : RV} {e' : En} {p : PV} {ms : EM (List Opd)} (hm : ms e = .ok [.pv p] e) (h : findM [⟨"Range", E⟩] "Range" m 2 [] = some (⟨"Range", E⟩, sh)) (hs : sh = ⟨2, [], [.pos 0, .pos 1], []⟩) (hp : E.ps.length = 2) (hE : E.sem [.val (.cls "Range"), .val p] = .ret r e') :
    cmethM [⟨"Range", E⟩] m 2 [] (opdM (EM.ret (.val (.cls "Range")))) ms opdsNil e = .ok r e := by
  subst hs
  simp [cmethM, cmethK, h, hm, callK, hp, pick, Src.get, hE]
theorem cmk1 {E : FnE} {m k : Str} {sh : Shape} {r : RV} {e' : En} {p : PV} {mk : EM (List Opd)} (hm : mk e = .ok [.pv p] e) (h : findM [⟨"Range", E⟩] "Range" m 1 [k] = some (⟨"Range", E⟩, sh)) (hs : sh = ⟨1, [k], [.pos 0, .kw 0], []⟩) (hp : E.ps.length = 2) (hE : E.sem [.val (.cls "Range"), .val p] = .ret r e') :
    cmethM [⟨"Range", E⟩] m 1 [k] (opdM (EM.ret (.val (.cls "Range")))) opdsNil mk e = .ok r e := by
  subst hs
  simp [cmethM, cmethK, h, hm, callK, hp, pick, Src.get, hE]
theorem every_cm (F : FqG fq) : cmethM [⟨"Range", E_Range_every fq⟩] "every" 1 [] (opdM (EM.ret (.val (.cls "Range")))) opdsNil opdsNil e = .ok (.own (rgO wh)) e := by
  obtain ⟨e1, E1⟩ := every_eq F
  exact cm0 (findM_one rfl rfl) rfl rfl E1
theorem nothing_cm (F : FqG fq) : cmethM [⟨"Range", E_Range_nothing fq⟩] "nothing" 1 [] (opdM (EM.ret (.val (.cls "Range")))) opdsNil opdsNil e = .ok (.own (rgO [])) e := by
  obtain ⟨e1, E1⟩ := nothing_eq F
  exact cm0 (findM_one rfl rfl) rfl rfl E1
theorem only_cm (F : FqG fq) {n : Int} {ms : EM (List Opd)} (h : 1000000000 ≤ n) (h2 : n % 1000000000 < 999999999) (hm : ms e = .ok [.pv (enc n)] e) : cmethM [⟨"Range", E_Range_only fq⟩] "only" 2 [] (opdM (EM.ret (.val (.cls "Range")))) ms opdsNil e = .ok (.own (rgO [(n, some (n + 1))])) e ∧ cmethM [⟨"Range", E_Range_only fq⟩] "only" 1 ["release"] (opdM (EM.ret (.val (.cls "Range")))) opdsNil ms e = .ok (.own (rgO [(n, some (n + 1))])) e := by
  obtain ⟨e1, E1⟩ := only_eq F h h2
  exact ⟨cm1 hm (findM_one rfl rfl) rfl rfl E1, cmk1 hm (findM_one rfl rfl) rfl rfl E1⟩
theorem series_cm (F : FqG fq) {a : Int} {ms : EM (List Opd)} (h : 1 ≤ a) (hm : ms e = .ok [.pv (.int a)] e) : cmethM [⟨"Range", E_Range_series fq⟩] "series" 2 [] (opdM (EM.ret (.val (.cls "Range")))) ms opdsNil e = .ok (.own (rgO [(a * 1000000000, some ((a + 1) * 1000000000))])) e ∧ cmethM [⟨"Range", E_Range_series fq⟩] "series" 1 ["number"] (opdM (EM.ret (.val (.cls "Range")))) opdsNil ms e = .ok (.own (rgO [(a * 1000000000, some ((a + 1) * 1000000000))])) e := by
  obtain ⟨e1, E1⟩ := series_eq F h
  exact ⟨cm1 hm (findM_one rfl rfl) rfl rfl E1, cmk1 hm (findM_one rfl rfl) rfl rfl E1⟩
theorem from_cm (F : FqG fq) {n : Int} {ms : EM (List Opd)} (h : 1000000000 ≤ n) (hm : ms e = .ok [.pv (enc n)] e) : cmethM [⟨"Range", E_Range_from_on fq⟩] "from_on" 2 [] (opdM (EM.ret (.val (.cls "Range")))) ms opdsNil e = .ok (.own (rgO [(n, none)])) e ∧ cmethM [⟨"Range", E_Range_from_on fq⟩] "from_on" 1 ["release"] (opdM (EM.ret (.val (.cls "Range")))) opdsNil ms e = .ok (.own (rgO [(n, none)])) e := by
  obtain ⟨e1, E1⟩ := from_eq F h
  exact ⟨cm1 hm (findM_one rfl rfl) rfl rfl E1, cmk1 hm (findM_one rfl rfl) rfl rfl E1⟩
theorem before_cm (F : FqG fq) {n : Int} {ms : EM (List Opd)} (h : 1000000000 ≤ n) (hm : ms e = .ok [.pv (enc n)] e) : cmethM [⟨"Range", E_Range_before fq⟩] "before" 2 [] (opdM (EM.ret (.val (.cls "Range")))) ms opdsNil e = .ok (.own (rgO (bef n))) e ∧ cmethM [⟨"Range", E_Range_before fq⟩] "before" 1 ["release"] (opdM (EM.ret (.val (.cls "Range")))) opdsNil ms e = .ok (.own (rgO (bef n))) e := by
  obtain ⟨e1, E1⟩ := before_eq F h
  exact ⟨cm1 hm (findM_one rfl rfl) rfl rfl E1, cmk1 hm (findM_one rfl rfl) rfl rfl E1⟩
/-! ### signs between ranges -/
theorem opX_or (F : FqG fq) {a b : Opd} {s t : Sts} (A : At e a s) (B : At e b t) (hs : Rg s) (ht : Rg t) (hl : s.length ≤ 400) (hl' : t.length ≤ 400) : opX fq [⟨"Range", E_Range___or__ fq⟩] .BitOr a b e = .ok (.own (rgO (jn "or" s t))) e := by
  obtain ⟨e1, E1⟩ := or_eq F hs ht hl hl'
  rw [opX_ins A.lk B.lk F.dun]
  exact dun2 (E := E_Range___or__ fq) A B (findM_one (by show ("__or__" : Str) = _; decide +kernel) rfl) rfl rfl E1
theorem opX_and (F : FqG fq) {a b : Opd} {s t : Sts} (A : At e a s) (B : At e b t) (hs : Rg s) (ht : Rg t) (hl : s.length ≤ 400) (hl' : t.length ≤ 400) : opX fq [⟨"Range", E_Range___and__ fq⟩] .BitAnd a b e = .ok (.own (rgO (jn "and" s t))) e := by
  obtain ⟨e1, E1⟩ := and_eq F hs ht hl hl'
  rw [opX_ins A.lk B.lk F.dun]
  exact dun2 (E := E_Range___and__ fq) A B (findM_one (by show ("__and__" : Str) = _; decide +kernel) rfl) rfl rfl E1
theorem cmpX_ne (F : FqG fq) (nf : nfT fq "Range" (.oc "Range") = true) {a b : Opd} {s t : Sts} (A : At e a s) (B : At e b t) : cmpX fq [⟨"Range", E_Range___eq__ fq⟩] .NotEq a b e = .ok (.val (.bl (!decide (s = t)))) e := by
  obtain ⟨e1, E1⟩ := eq_eq F (s := s) (t := t)
  have d := dun2 (E := E_Range___eq__ fq) (dn := "__eq__") A B (findM_one rfl rfl) rfl rfl E1
  have np : nfP fq "Range" (rg t) = true := nf
  unfold cmpX EM.bind
  simp only [lookM_app, A.lk, B.lk]
  show (if dunT fq "Range" && nfP fq "Range" (rg t) then boolR (dunK [⟨"Range", E_Range___eq__ fq⟩] "__eq__" [a, b] "Range") fun k => retB (!k) else EM.bad) e = _
  rw [F.dun, np]
  show (boolR (dunK [⟨"Range", E_Range___eq__ fq⟩] "__eq__" [a, b] "Range") fun k => retB (!k)) e = _
  unfold boolR EM.bind
  simp only [d]
  rfl
theorem cmpX_le (F : FqG fq) (nf : nfT fq "Range" (.oc "Range") = true) {a b : Opd} {s t : Sts} (A : At e a s) (B : At e b t) (hl : s.length ≤ 400) (hl' : t.length ≤ 400) : cmpX fq [⟨"Range", E_Range___le__ fq⟩] .LtE a b e = .ok (.val (.bl (decide (jn "less" s t = [])))) e := by
  obtain ⟨e1, E1⟩ := le_eq F hl hl'
  have d := dun2 (E := E_Range___le__ fq) (dn := "__le__") A B (findM_one rfl rfl) rfl rfl E1
  have np : nfP fq "Range" (rg t) = true := nf
  unfold cmpX EM.bind
  simp only [lookM_app, A.lk, B.lk]
  show (if nfP fq "Range" (rg t) then dunK [⟨"Range", E_Range___le__ fq⟩] "__le__" [a, b] "Range" else EM.bad) e = _
  rw [np]
  exact d
end PG

namespace PG
open PySem L2 QB RM
/-! ### stretches drawn by a law -/
/-- a release whose numbers are at most k -/
def Tn (k n : Int) : Prop := 1000000000 ≤ n ∧ n / 1000000000 ≤ k ∧ n % 1000000000 ≤ k
def TnP (k : Int) (p : Int × Option Int) : Prop := Tn k p.1 ∧ ∀ h, p.2 = some h → Tn k h ∧ p.1 < h
def TnS (k : Int) (s : Sts) : Prop := ∀ p ∈ s, TnP k p
theorem TnS.ok {k : Int} {s : Sts} (h : TnS k s) : OkS s := fun p hp => ⟨(h p hp).1.1, fun q hq => ((h p hp).2 q hq).2⟩
theorem enc_of {a b : Int} (hb : 0 ≤ b) (hb2 : b < 1000000000) : PV.tup [.int a, .int b] = enc (a * 1000000000 + b) := by
  have h1 : (a * 1000000000 + b) / 1000000000 = a := by omega
  have h2 : (a * 1000000000 + b) % 1000000000 = b := by omega
  unfold enc
  rw [h1, h2]
theorem Rl.enc {p : PV} (h : Rl p) : ∃ n, Tn 98 n ∧ p = enc n := by
  obtain ⟨a, b, h1, h2, h3, h4, rfl⟩ := h
  exact ⟨a * 1000000000 + b, ⟨by omega, by omega, by omega⟩, enc_of h2 (by omega)⟩
theorem rel_spec {o : MO} (hb : Bx o) : ∃ n o' e', Tn 98 n ∧ Bx o' ∧ sem__law_release [.par o] = .ret (.val (PG.enc n)) (some (.par o') :: e') := by
  obtain ⟨p, o', e', hp, hb', E⟩ := release_spec hb
  obtain ⟨n, hn, rfl⟩ := hp.enc
  exact ⟨n, o', e', hn, hb', E⟩
@[simp] theorem ix_lb {x y : PV} {b : Bool} {xs : List PV} : ixP (.lst (x :: y :: xs)) (.bl b) = some (if b then y else x) := by cases b <;> rfl
theorem atI_last {xs : List PV} {x : PV} : atI (xs ++ [x]) (-1) = some x := by
  have h : (-1 + ((xs.length : Int) + 1)).toNat = xs.length := by omega
  simp [atI, ixN]
  rw [if_pos (by omega), h]
  simp
theorem ix_last {xs : List PV} {x : PV} : ixP (.lst (xs ++ [x])) (.int (-1)) = some x := atI_last
theorem prA {o : MO} {m t : PV} {q' : List PV} {x4 x5 x6 : Option Slot} (hb : Bx o) (h5 : pinO x5 = false) (h6 : pinO x6 = false) : ∃ n hi o', Tn 98 n ∧ (∀ h, hi = some h → Tn 98 h) ∧ Bx o' ∧ ∀ b : SM, seqM (asg2M 5 6 (valsCons (callM sem__law_release 1 sh__law_release_0 (opdsCons (slotM 0) opdsNil) opdsNil) (valsCons (ixM (opdM (lstM (valsCons (EM.ret (.val .non)) (valsCons (callM sem__law_release 1 sh__law_release_0 (opdsCons (slotM 0) opdsNil) opdsNil) valsNil)))) (opdM (two (opdM (callM sem__law_take 2 sh__law_take_0 (opdsCons (slotM 0) (opdsCons (opdM (EM.ret (.val (.int 5)))) opdsNil)) opdsNil)) (opdM (EM.ret (.val (.int 0)))) (opC .Gt)))) valsNil))) b [some (.par o), some (.val m), some (.own (.lst q')), some (.val t), x4, x5, x6] = b [some (.par o'), some (.val m), some (.own (.lst q')), some (.val t), x4, some (.val (enc n)), some (.val (enO hi))] := by
  obtain ⟨n, o1, e1, hn, b1, E1⟩ := rel_spec hb
  obtain ⟨n2, o2, e2, hn2, b2, E2⟩ := rel_spec b1
  obtain ⟨r, o3, e3, r0, r1, b3, E3⟩ := take_spec (n := 5) b2 (by omega) (by omega)
  by_cases hr : 0 < r
  · refine ⟨n, some n2, o3, hn, fun h z => by cases z; exact hn2, b3, fun b => ?_⟩
    simp [sh__law_release_0, sh__law_take_0, pick, Src.get, E1, E2, E3, hr, h5, h6, enO]
  · refine ⟨n, none, o3, hn, (fun h z => by cases z), b3, fun b => ?_⟩
    simp [sh__law_release_0, sh__law_take_0, pick, Src.get, E1, E2, E3, hr, h5, h6, enO]
def lastH (f : Sts) : Option Int := f.getLast?.bind (·.2)
theorem prB {o : MO} {m t : PV} {f : Sts} {x4 : Option Slot} {v5 v6 : PV} (h4 : pinO x4 = false) : ∀ b : SM, seqM (asgM 4 (iteM (boolM (two (slotM 2) (opdM (lstM valsNil)) (opC .NotEq))) (ixM (opdM (ixM (slotM 2) (opdM (one (opdM (EM.ret (.val (.int 1)))) opNeg)))) (opdM (EM.ret (.val (.int 1))))) (EM.ret (.val .non)))) b [some (.par o), some (.val m), some (.own (.lst (enS f))), some (.val t), x4, some (.val v5), some (.val v6)] = b [some (.par o), some (.val m), some (.own (.lst (enS f))), some (.val t), some (.val (enO (lastH f))), some (.val v5), some (.val v6)] := by
  intro b
  have ne : ∀ e, opC .NotEq (.lst (enS f)) (.lst []) e = .ok (.val (.bl (!decide (f = [])))) e := fun e => by
    rw [opNe_app]
    have := eqP_ll (s := f) (t := [])
    rw [show enS [] = [] from rfl] at this
    rw [this]
  rcases List.eq_nil_or_concat f with rfl | ⟨g, p, rfl⟩
  · simp [ne, h4, lastH, enO]
  · have i1 : ixP (.lst (enS (g ++ [p]))) (.int (-1)) = some (enP p) := by
      unfold enS
      rw [List.map_append]
      exact ix_last
    have i2 : ixP (enP p) (.int 1) = some (enO p.2) := by simp [enP]
    simp [List.concat_eq_append] at *
    simp [ne, h4, lastH, i1, i2]
theorem prC {o : MO} {m t : PV} {f : List PV} {la : Option Int} {n : Int} {v6 : PV} (hb : Bx o) : ∃ n' o', (n' = n ∨ (la = some n' ∧ n' / 1000000000 < 60 ∧ n' % 1000000000 < 60)) ∧ Bx o' ∧ ∀ b : SM, seqM (thenS (andT (boolM (two (slotM 4) (opdM (EM.ret (.val .non))) (opC .IsNot))) (andT (boolM (two (opdM (ixM (slotM 4) (opdM (EM.ret (.val (.int 0)))))) (opdM (EM.ret (.val (.int 60)))) (opC .Lt))) (andT (boolM (two (opdM (ixM (slotM 4) (opdM (EM.ret (.val (.int 1)))))) (opdM (EM.ret (.val (.int 60)))) (opC .Lt))) (boolM (two (opdM (callM sem__law_take 2 sh__law_take_0 (opdsCons (slotM 0) (opdsCons (opdM (EM.ret (.val (.int 3)))) opdsNil)) opdsNil)) (opdM (EM.ret (.val (.int 0)))) (opC .Eq)))))) fun k => if k then (asgM 5 (getM 4)) else skipM) b [some (.par o), some (.val m), some (.own (.lst f)), some (.val t), some (.val (enO la)), some (.val (enc n)), some (.val v6)] = b [some (.par o'), some (.val m), some (.own (.lst f)), some (.val t), some (.val (enO la)), some (.val (enc n')), some (.val v6)] := by
  cases la with
  | none => exact ⟨n, o, .inl rfl, hb, fun b => by simp [enO]⟩
  | some k =>
    by_cases h1 : k / 1000000000 < 60
    · by_cases h2 : k % 1000000000 < 60
      · obtain ⟨r, o3, e3, r0, r1, b3, E3⟩ := take_spec (n := 3) hb (by omega) (by omega)
        by_cases h3 : r = 0
        · exact ⟨k, o3, .inr ⟨rfl, h1, h2⟩, b3, fun b => by simp [enO, h1, h2, sh__law_take_0, pick, Src.get, E3, h3]⟩
        · exact ⟨n, o3, .inl rfl, b3, fun b => by simp [enO, h1, h2, sh__law_take_0, pick, Src.get, E3, h3]⟩
      · exact ⟨n, o, .inl rfl, hb, fun b => by simp [enO, h1, h2]⟩
    · exact ⟨n, o, .inl rfl, hb, fun b => by simp [enO, h1]⟩
theorem prD {o : MO} {m t : PV} {f : List PV} {v4 : PV} {n : Int} {hi : Option Int} (hb : Bx o) (hn : Tn 98 n) (hh : ∀ h, hi = some h → Tn 98 h) : ∃ hi' o', (∀ h, hi' = some h → Tn 99 h ∧ n < h) ∧ Bx o' ∧ ∀ b : SM, seqM (thenS (andT (boolM (two (slotM 6) (opdM (EM.ret (.val .non))) (opC .IsNot))) (notT (boolM (two (slotM 5) (slotM 6) (opC .Lt))))) fun k => if k then (asgM 6 (ixM (opdM (lstM (valsCons (tupM (valsCons (ixM (slotM 5) (opdM (EM.ret (.val (.int 0))))) (valsCons (two (opdM (ixM (slotM 5) (opdM (EM.ret (.val (.int 1)))))) (opdM (EM.ret (.val (.int 1)))) (opB .Add)) valsNil))) (valsCons (tupM (valsCons (two (opdM (ixM (slotM 5) (opdM (EM.ret (.val (.int 0)))))) (opdM (EM.ret (.val (.int 1)))) (opB .Add)) (valsCons (EM.ret (.val (.int 0))) valsNil))) valsNil)))) (opdM (callM sem__law_take 2 sh__law_take_0 (opdsCons (slotM 0) (opdsCons (opdM (EM.ret (.val (.int 2)))) opdsNil)) opdsNil)))) else skipM) b [some (.par o), some (.val m), some (.own (.lst f)), some (.val t), some (.val v4), some (.val (enc n)), some (.val (enO hi))] = b [some (.par o'), some (.val m), some (.own (.lst f)), some (.val t), some (.val v4), some (.val (enc n)), some (.val (enO hi'))] := by
  obtain ⟨g1, g2, g3⟩ := hn
  cases hi with
  | none => exact ⟨none, o, (fun h z => by cases z), hb, fun b => by simp [enO]⟩
  | some k =>
    by_cases h1 : n < k
    · exact ⟨some k, o, fun h z => by cases z; obtain ⟨a, b, c⟩ := hh k rfl; exact ⟨⟨a, by omega, by omega⟩, h1⟩, hb, fun b => by simp [enO, h1]⟩
    · obtain ⟨r, o3, e3, r0, r1, b3, E3⟩ := take_spec (n := 2) hb (by omega) (by omega)
      have hr : r = 0 ∨ r = 1 := by omega
      have E1 := enc_of (a := n / 1000000000) (b := n % 1000000000 + 1) (by omega) (by omega)
      have E2 := enc_of (a := n / 1000000000 + 1) (b := 0) (by omega) (by omega)
      rcases hr with rfl | rfl
      · exact ⟨some (n / 1000000000 * 1000000000 + (n % 1000000000 + 1)), o3, fun h z => by cases z; exact ⟨⟨by omega, by omega, by omega⟩, by omega⟩, b3, fun b => by simp [enO, h1, sh__law_take_0, pick, Src.get, E3, E1]⟩
      · exact ⟨some ((n / 1000000000 + 1) * 1000000000), o3, fun h z => by cases z; exact ⟨⟨by omega, by omega, by omega⟩, by omega⟩, b3, fun b => by simp [enO, h1, sh__law_take_0, pick, Src.get, E3, E2]⟩
theorem lastH_mem {f : Sts} {k : Int} (h : lastH f = some k) : ∃ p ∈ f, p.2 = some k := by
  unfold lastH at h
  cases hg : f.getLast? with
  | none => rw [hg] at h; cases h
  | some p => rw [hg] at h; exact ⟨p, List.mem_of_getLast? hg, h⟩
theorem prTurn {o : MO} {m t : PV} {f : Sts} {x4 x5 x6 : Option Slot} (hb : Bx o) (hf : TnS 99 f) (hl : f.length ≤ 1000) (h4 : pinO x4 = false) (h5 : pinO x5 = false) (h6 : pinO x6 = false) : ∃ o' p v4 v5 v6, Bx o' ∧ TnP 99 p ∧ l__law_pairs_0 [some (.par o), some (.val m), some (.own (.lst (enS f))), some (.val t), x4, x5, x6] = .nx [some (.par o'), some (.val m), some (.own (.lst (enS (f ++ [p])))), some (.val t), some (.val v4), some (.val v5), some (.val v6)] := by
  obtain ⟨n, hi, o1, hn, hh, b1, A⟩ := prA (m := m) (t := t) (q' := enS f) (x4 := x4) hb h5 h6
  have B := prB (o := o1) (m := m) (t := t) (f := f) (v5 := enc n) (v6 := enO hi) h4
  obtain ⟨n', o2, hn', b2, C⟩ := prC (m := m) (t := t) (f := enS f) (la := lastH f) (n := n) (v6 := enO hi) b1
  have hn2 : Tn 98 n' := by
    rcases hn' with rfl | ⟨h, g1, g2⟩
    · exact hn
    · obtain ⟨p, hp, hk⟩ := lastH_mem h
      obtain ⟨a, b, c⟩ := ((hf p hp).2 _ hk).1
      exact ⟨a, by omega, by omega⟩
  obtain ⟨hi', o3, hh', b3, D⟩ := prD (m := m) (t := t) (f := enS f) (v4 := enO (lastH f)) (n := n') b2 hn2 hh
  have fl : (enS f).length < 16777216 := by unfold enS; rw [List.length_map]; omega
  refine ⟨o3, (n', hi'), enO (lastH f), enc n', enO hi', b3, ⟨⟨hn2.1, by have := hn2.2.1; show n' / 1000000000 ≤ 99; omega, by have := hn2.2.2; show n' % 1000000000 ≤ 99; omega⟩, hh'⟩, ?_⟩
  unfold l__law_pairs_0
  rw [A, B, C, D]
  simp [appX_of fl]
  simp [enS, enP]
theorem prLoop {m : PV} : ∀ (ts : List PV) {o : MO} {f : Sts} {x3 x4 x5 x6 : Option Slot}, Bx o → TnS 99 f → f.length + ts.length ≤ 1000 → pinO x3 = false → pinO x4 = false → pinO x5 = false → pinO x6 = false →
    ∃ o' g y3 y4 y5 y6, Bx o' ∧ TnS 99 g ∧ g.length = f.length + ts.length ∧ loopM (bndNm 3) l__law_pairs_0 ts [some (.par o), some (.val m), some (.own (.lst (enS f))), x3, x4, x5, x6] = .nx [some (.par o'), some (.val m), some (.own (.lst (enS g))), y3, y4, y5, y6]
  | [], o, f, x3, x4, x5, x6, hb, hf, _, _, _, _, _ => ⟨o, f, x3, x4, x5, x6, hb, hf, rfl, rfl⟩
  | t :: ts, o, f, x3, x4, x5, x6, hb, hf, hl, h3, h4, h5, h6 => by
    obtain ⟨o1, p, v4, v5, v6, b1, hp, T⟩ := prTurn (m := m) (t := t) hb hf (by simp at hl; omega) h4 h5 h6
    obtain ⟨o2, g, y3, y4, y5, y6, b2, hg, lg, L⟩ := prLoop ts (m := m) (o := o1) (f := f ++ [p]) (x3 := some (.val t)) (x4 := some (.val v4)) (x5 := some (.val v5)) (x6 := some (.val v6)) b1 (fun q hq => by
      rcases List.mem_append.mp hq with hq | hq
      · exact hf q hq
      · rw [List.mem_singleton] at hq; subst hq; exact hp) (by simp at hl ⊢; omega) rfl rfl rfl rfl
    refine ⟨o2, g, y3, y4, y5, y6, b2, hg, by simp at lg ⊢; omega, ?_⟩
    unfold loopM
    simp [h3, T, L]
theorem pairs_spec {o : MO} {m : Int} (hb : Bx o) (h0 : 0 ≤ m) (h1 : m ≤ 100) : ∃ s o' e', TnS 99 s ∧ (s.length : Int) ≤ m ∧ Bx o' ∧ sem__law_pairs [.par o, .val (.int m)] = .ret (.val (.lst (enS s))) (some (.par o') :: e') := by
  obtain ⟨r, o1, e1, r0, r1, b1, E1⟩ := take_spec (n := m + 1) hb (by omega) (by omega)
  have hk : (rngP 0 r).length = r.toNat := by simp [rngP]
  obtain ⟨o2, g, y3, y4, y5, y6, b2, hg, lg, L⟩ := prLoop (rngP 0 r) (m := .int m) (f := []) (x3 := none) (x4 := none) (x5 := none) (x6 := none) b1 (fun p hp => by cases hp) (by rw [hk]; simp; omega) rfl rfl rfl rfl
  have hr : inR r = true := inR_of (by omega) (by omega)
  generalize ht : rngP 0 r = ts at *
  have L' : loopM (bndNm 3) l__law_pairs_0 ts [some (.par o1), some (.val (.int m)), some (.own (.lst [])), none, none, none, none] = _ := L
  refine ⟨g, o2, [some (.val (.int m)), some (.val (.lst (enS g))), y3, y4, y5, y6], hg, by rw [hk] at lg; simp at lg; omega, b2, ?_⟩
  generalize hz : m + 1 = z at *
  have A : ∀ e, opB .Add (.int m) (.int 1) e = .ok (.val (.int z)) e := fun e => by rw [← hz]; simp
  simp [sem__law_pairs, m__law_pairs, sh__law_take_0, pick, Src.get, A, E1, hr, ht, L']
end PG

namespace PG
open PySem L2 QB RM
variable {fq : List Fq} {tbl : List MethE} {e : En}
/-! ### all signs between ranges -/
structure FqC (fq : List Fq) : Prop where
  st : noatT fq "Range" "stretches" = true
  is : isiB fq (.oc "Range") [.oc "Range"] = some true
  dun : dunT fq "Range" = true
  nl : noatT fq "Range" "least" = false
  nf : nfT fq "Range" (.oc "Range") = true
theorem FqC.g (F : FqC fq) : FqG fq := ⟨F.st, F.is, F.dun⟩
theorem opX_sub (F : FqG fq) {a b : Opd} {s t : Sts} (A : At e a s) (B : At e b t) (hs : Rg s) (ht : Rg t) (hl : s.length ≤ 400) (hl' : t.length ≤ 400) : opX fq [⟨"Range", E_Range___sub__ fq⟩] .Sub a b e = .ok (.own (rgO (jn "less" s t))) e := by
  obtain ⟨e1, E1⟩ := sub_eq F hs ht hl hl'
  rw [opX_ins A.lk B.lk F.dun]
  exact dun2 (E := E_Range___sub__ fq) A B (findM_one (by show ("__sub__" : Str) = _; decide +kernel) rfl) rfl rfl E1
theorem opX_xor (F : FqG fq) {a b : Opd} {s t : Sts} (A : At e a s) (B : At e b t) (hs : Rg s) (ht : Rg t) (hl : s.length ≤ 400) (hl' : t.length ≤ 400) : opX fq [⟨"Range", E_Range___xor__ fq⟩] .BitXor a b e = .ok (.own (rgO (jn "unlike" s t))) e := by
  obtain ⟨e1, E1⟩ := xor_eq F hs ht hl hl'
  rw [opX_ins A.lk B.lk F.dun]
  exact dun2 (E := E_Range___xor__ fq) A B (findM_one (by show ("__xor__" : Str) = _; decide +kernel) rfl) rfl rfl E1
theorem inv_eq (F : FqG fq) {s : Sts} (hs : Rg s) (hl : s.length ≤ 400) : ∃ e, sem_Range___invert__ fq [.val (rg s)] = .ret (.own (rgO (jn "less" wh s))) e := by
  obtain ⟨e1, E1⟩ := joined_eq (w := "less") (.inr (.inr (.inl rfl))) (q := .tup (enS wh)) (r := .tup (enS s)) (s := wh) (t := s) rfl rfl rfl rfl (by decide) (by omega)
  have a0 : attrM fq [] "stretches" (slotM 0) [some (.val (rg s))] = .ok (.val (.tup (enS s))) [some (.val (rg s))] := attrM_at F rfl rfl
  have hj := jn_len (w := "less") (s := wh) (t := s)
  have wl : wh.length = 1 := rfl
  have := make2 F (Sq.tup (s := jn "less" wh s)) (jn_rg (.inr (.inr (.inl rfl))) wh_rg.ok hs.ok).ok (by omega) (mo := opdM (EM.ret (.val (.cls "Range")))) (ms := opdsCons (opdM (callM sem_joined 3 sh_joined_0 (opdsCons (opdM (EM.ret (.val (.str "less")))) (opdsCons (opdM (EM.ret (.val c_WHOLE))) (opdsCons (opdM (attrM fq [] "stretches" (slotM 0))) opdsNil))) opdsNil)) opdsNil) (mk := opdsNil) (e := [some (.val (rg s))]) (e1 := [some (.val (rg s))]) (e2 := [some (.val (rg s))]) (e3 := [some (.val (rg s))]) (o := .pv (.cls "Range")) (by simp) rfl (by simp [a0, whole_en, sh_joined_0, pick, Src.get, E1]) rfl
  rw [rg_id (jn_rg (.inr (.inr (.inl rfl))) wh_rg.ok hs.ok)] at this
  simp [sem_Range___invert__, m_Range___invert__, this]
theorem invX_rg (F : FqG fq) {a : Opd} {s : Sts} (A : At e a s) (hs : Rg s) (hl : s.length ≤ 400) : invX [⟨"Range", E_Range___invert__ fq⟩] a e = .ok (.own (rgO (jn "less" wh s))) e := by
  obtain ⟨e1, E1⟩ := inv_eq F hs hl
  have d := dun1 (E := E_Range___invert__ fq) (dn := "__invert__") A (findM_one rfl rfl) rfl rfl E1
  unfold invX EM.bind
  simp only [lookM_app, A.lk]
  exact d
theorem cmpX_eq (F : FqG fq) (nf : nfT fq "Range" (.oc "Range") = true) {a b : Opd} {s t : Sts} (A : At e a s) (B : At e b t) : cmpX fq [⟨"Range", E_Range___eq__ fq⟩] .Eq a b e = .ok (.val (.bl (decide (s = t)))) e := by
  obtain ⟨e1, E1⟩ := eq_eq F (s := s) (t := t)
  have d := dun2 (E := E_Range___eq__ fq) (dn := "__eq__") A B (findM_one rfl rfl) rfl rfl E1
  have np : nfP fq "Range" (rg t) = true := nf
  unfold cmpX EM.bind
  simp only [lookM_app, A.lk, B.lk]
  show (if nfP fq "Range" (rg t) then dunK [⟨"Range", E_Range___eq__ fq⟩] "__eq__" [a, b] "Range" else EM.bad) e = _
  rw [np]
  exact d
theorem ge_eq (F : FqG fq) {s t : Sts} (hl : s.length ≤ 400) (hl' : t.length ≤ 400) : ∃ e, sem_Range___ge__ fq [.val (rg s), .val (rg t)] = .ret (.val (.bl (decide (jn "less" t s = [])))) e := by
  have I := isi_rg (s := t) F
  have a0 : attrM fq [] "stretches" (slotM 0) [some (.val (rg s)), some (.val (rg t))] = .ok (.val (.tup (enS s))) [some (.val (rg s)), some (.val (rg t))] := attrM_at F rfl rfl
  have a1 : attrM fq [] "stretches" (slotM 1) [some (.val (rg s)), some (.val (rg t))] = .ok (.val (.tup (enS t))) [some (.val (rg s)), some (.val (rg t))] := attrM_at F rfl rfl
  obtain ⟨e1, E1⟩ := joined_eq (.inr (.inr (.inl rfl)) : Wd "less") (q := .tup (enS t)) (r := .tup (enS s)) (s := t) (t := s) rfl rfl rfl rfl (by omega) (by omega)
  simp [sem_Range___ge__, m_Range___ge__, I, a0, a1, sh_joined_0, pick, Src.get, E1]
theorem lt_eq (F : FqG fq) {s t : Sts} (hl : s.length ≤ 400) (hl' : t.length ≤ 400) : ∃ e, sem_Range___lt__ fq [.val (rg s), .val (rg t)] = .ret (.val (.bl (decide (jn "less" s t = []) && !decide (s = t)))) e := by
  have I := isi_rg (s := t) F
  have a0 : attrM fq [] "stretches" (slotM 0) [some (.val (rg s)), some (.val (rg t))] = .ok (.val (.tup (enS s))) [some (.val (rg s)), some (.val (rg t))] := attrM_at F rfl rfl
  have a1 : attrM fq [] "stretches" (slotM 1) [some (.val (rg s)), some (.val (rg t))] = .ok (.val (.tup (enS t))) [some (.val (rg s)), some (.val (rg t))] := attrM_at F rfl rfl
  obtain ⟨e1, E1⟩ := joined_eq (.inr (.inr (.inl rfl)) : Wd "less") (q := .tup (enS s)) (r := .tup (enS t)) (s := s) (t := t) rfl rfl rfl rfl (by omega) (by omega)
  by_cases h : jn "less" s t = [] <;> simp [sem_Range___lt__, m_Range___lt__, I, a0, a1, sh_joined_0, pick, Src.get, E1, h]
theorem gt_eq (F : FqG fq) {s t : Sts} (hl : s.length ≤ 400) (hl' : t.length ≤ 400) : ∃ e, sem_Range___gt__ fq [.val (rg s), .val (rg t)] = .ret (.val (.bl (decide (jn "less" t s = []) && !decide (s = t)))) e := by
  have I := isi_rg (s := t) F
  have a0 : attrM fq [] "stretches" (slotM 0) [some (.val (rg s)), some (.val (rg t))] = .ok (.val (.tup (enS s))) [some (.val (rg s)), some (.val (rg t))] := attrM_at F rfl rfl
  have a1 : attrM fq [] "stretches" (slotM 1) [some (.val (rg s)), some (.val (rg t))] = .ok (.val (.tup (enS t))) [some (.val (rg s)), some (.val (rg t))] := attrM_at F rfl rfl
  obtain ⟨e1, E1⟩ := joined_eq (.inr (.inr (.inl rfl)) : Wd "less") (q := .tup (enS t)) (r := .tup (enS s)) (s := t) (t := s) rfl rfl rfl rfl (by omega) (by omega)
  by_cases h : jn "less" t s = [] <;> simp [sem_Range___gt__, m_Range___gt__, I, a0, a1, sh_joined_0, pick, Src.get, E1, h]
theorem cmpX_ord (nf : nfT fq "Range" (.oc "Range") = true) {E : FnE} {op : CmpOp} {dn : Str} {a b : Opd} {s t : Sts} {r : RV} {e1 : En} (ho : cmpN op = some dn) (hop : op = .Lt ∨ op = .Gt ∨ op = .GtE ∨ op = .LtE) (hn : E.name = dn) (hsh : E.shapes = [⟨2, [], [.pos 0, .pos 1], []⟩]) (hp : E.ps.length = 2) (A : At e a s) (B : At e b t) (E1 : E.sem [.val (rg s), .val (rg t)] = .ret r e1) : cmpX fq [⟨"Range", E⟩] op a b e = .ok r e := by
  have d := dun2 (E := E) (dn := dn) A B (findM_one hn (by rw [hsh]; rfl)) rfl hp E1
  have np : nfP fq "Range" (rg t) = true := nf
  unfold cmpX EM.bind
  simp only [lookM_app, A.lk, B.lk]
  rcases hop with rfl | rfl | rfl | rfl
  all_goals
    cases ho
    refine Eq.trans (b := (if nfP fq "Range" (rg t) then dunK [⟨"Range", E⟩] _ [a, b] "Range" else EM.bad) e) rfl ?_
    rw [np]
    exact d
theorem cmpX_ge (F : FqG fq) (nf : nfT fq "Range" (.oc "Range") = true) {a b : Opd} {s t : Sts} (A : At e a s) (B : At e b t) (hl : s.length ≤ 400) (hl' : t.length ≤ 400) : cmpX fq [⟨"Range", E_Range___ge__ fq⟩] .GtE a b e = .ok (.val (.bl (decide (jn "less" t s = [])))) e := by
  obtain ⟨e1, E1⟩ := ge_eq F hl hl'
  exact cmpX_ord (E := E_Range___ge__ fq) nf rfl (.inr (.inr (.inl rfl))) rfl rfl rfl A B E1
theorem cmpX_lt (F : FqG fq) (nf : nfT fq "Range" (.oc "Range") = true) {a b : Opd} {s t : Sts} (A : At e a s) (B : At e b t) (hl : s.length ≤ 400) (hl' : t.length ≤ 400) : cmpX fq [⟨"Range", E_Range___lt__ fq⟩] .Lt a b e = .ok (.val (.bl (decide (jn "less" s t = []) && !decide (s = t)))) e := by
  obtain ⟨e1, E1⟩ := lt_eq F hl hl'
  exact cmpX_ord (E := E_Range___lt__ fq) nf rfl (.inl rfl) rfl rfl rfl A B E1
theorem cmpX_gt (F : FqG fq) (nf : nfT fq "Range" (.oc "Range") = true) {a b : Opd} {s t : Sts} (A : At e a s) (B : At e b t) (hl : s.length ≤ 400) (hl' : t.length ≤ 400) : cmpX fq [⟨"Range", E_Range___gt__ fq⟩] .Gt a b e = .ok (.val (.bl (decide (jn "less" t s = []) && !decide (s = t)))) e := by
  obtain ⟨e1, E1⟩ := gt_eq F hl hl'
  exact cmpX_ord (E := E_Range___gt__ fq) nf rfl (.inr (.inl rfl)) rfl rfl rfl A B E1
/-! ### a release in a range -/
theorem contains_eq (F : FqG fq) {s : Sts} {n : Int} (hn : 1000000000 ≤ n) (hl : s.length ≤ 1000) : ∃ e, sem_Range___contains__ fq [.val (rg s), .val (enc n)] = .ret (.val (.bl (hasN s n))) e := by
  obtain ⟨e1, E1⟩ := isrel_eq (fq := fq) (dt_enc (n := n))
  rw [isRel_enc hn] at E1
  obtain ⟨e2, E2⟩ := has_eq (q := .tup (enS s)) (x := n) rfl hl
  have a0 : attrM fq [] "stretches" (slotM 0) [some (.val (rg s)), some (.val (enc n))] = .ok (.val (.tup (enS s))) [some (.val (rg s)), some (.val (enc n))] := attrM_at F rfl rfl
  simp [sem_Range___contains__, m_Range___contains__, a0, sh_is_release_0, sh_has_0, pick, Src.get, E1, E2]
theorem dunC (F : FqG fq) {a b : Opd} {s : Sts} {n : Int} (B : At e b s) (ha : frzO a e = .ok (.pv (enc n)) e) (hn : 1000000000 ≤ n) (hl : s.length ≤ 1000) : dunK [⟨"Range", E_Range___contains__ fq⟩] "__contains__" [b, a] "Range" e = .ok (.val (.bl (hasN s n))) e := by
  obtain ⟨e1, E1⟩ := contains_eq F hn hl
  have E1' : (E_Range___contains__ fq).sem [.val (rg s), .val (enc n)] = .ret (.val (.bl (hasN s n))) e1 := E1
  rw [dunK_one (c := "Range") (dn := "__contains__") (E := E_Range___contains__ fq) (os := [b, a]) (findM_one (s := ⟨2, [], [.pos 0, .pos 1], []⟩) rfl rfl)]
  simp only [frzs_cons, B.fz, ha, frzs_nil]
  have hp : (E_Range___contains__ fq).ps.length = 2 := rfl
  simp [callK, hp, pick, Src.get, E1']
theorem cmpX_in (F : FqG fq) {a b : Opd} {s : Sts} {n : Int} (B : At e b s) (ha : frzO a e = .ok (.pv (enc n)) e) (hx : a.look e = some (enc n)) (hn : 1000000000 ≤ n) (hl : s.length ≤ 1000) : cmpX fq [⟨"Range", E_Range___contains__ fq⟩] .In a b e = .ok (.val (.bl (hasN s n))) e := by
  have d := dunC F B ha hn hl
  unfold cmpX EM.bind
  simp only [lookM_app, hx, B.lk]
  show (boolR (dunK [⟨"Range", E_Range___contains__ fq⟩] "__contains__" [b, a] "Range") retB) e = _
  unfold boolR EM.bind
  simp only [d]
  rfl
theorem cmpX_nin (F : FqG fq) {a b : Opd} {s : Sts} {n : Int} (B : At e b s) (ha : frzO a e = .ok (.pv (enc n)) e) (hx : a.look e = some (enc n)) (hn : 1000000000 ≤ n) (hl : s.length ≤ 1000) : cmpX fq [⟨"Range", E_Range___contains__ fq⟩] .NotIn a b e = .ok (.val (.bl (!hasN s n))) e := by
  have d := dunC F B ha hn hl
  unfold cmpX EM.bind
  simp only [lookM_app, hx, B.lk]
  show (boolR (dunK [⟨"Range", E_Range___contains__ fq⟩] "__contains__" [b, a] "Range") fun k => retB (!k)) e = _
  unfold boolR EM.bind
  simp only [d]
  rfl
def lstP : Sts → PV
  | [] => .non
  | p :: _ => enc p.1
theorem attr_least (F : FqC fq) {i : Nat} {s : Sts} (h : e[i]? = some (some (.val (rg s)))) : attrM fq [⟨"Range", E_Range_least fq⟩] "least" (slotM i) e = .ok (.val (lstP s)) e := by
  obtain ⟨e4, E4⟩ := least_eq F.g (s := s)
  have e4' : (E_Range_least fq).sem [.val (rg s)] = .ret (.val (lstP s)) e4 := E4
  unfold attrM EM.bind
  simp only [slotM_app, lookM_app, look_slot, h, pvo_val]
  show (if noatT fq "Range" "least" then _ else match findP [⟨"Range", E_Range_least fq⟩] "Range" "least" with
    | some e => (callE e.E.sem [Opd.slot i]).calm
    | none => EM.bad) _ = _
  rw [F.nl]
  have fp : findP [⟨"Range", E_Range_least fq⟩] "Range" "least" = some ⟨"Range", E_Range_least fq⟩ := rfl
  rw [fp]
  simp [h, e4']
end PG

namespace PG
open PySem L2 QB RM
variable {fq : List Fq} {e : En}
/-! ### truth -/
noncomputable def pb (P : Prop) : Bool := @decide P (Classical.propDecidable P)
theorem pb_iff {P : Prop} : pb P = true ↔ P := by unfold pb; exact @decide_eq_true_iff P (Classical.propDecidable P)
theorem pb_true {P : Prop} (h : P) : pb P = true := pb_iff.mpr h
theorem pb_false {P : Prop} (h : ¬ P) : pb P = false := by cases z : pb P with
  | false => rfl
  | true => exact absurd (pb_iff.mp z) h
theorem pb_congr {P Q : Prop} (h : P ↔ Q) : pb P = pb Q := by rw [show P = Q from propext h]
theorem pb_eq {P : Prop} [inst : Decidable P] : decide P = pb P := by
  by_cases h : P
  · rw [pb_true h, decide_eq_true h]
  · rw [pb_false h, decide_eq_false h]
theorem pb_not {P : Prop} : (!pb P) = pb (¬ P) := by
  by_cases h : P
  · rw [pb_true h, pb_false (fun z => z h)]; rfl
  · rw [pb_false h, pb_true h]; rfl
theorem pb_and {P Q : Prop} : (pb P && pb Q) = pb (P ∧ Q) := by
  by_cases h : P
  · by_cases h2 : Q
    · rw [pb_true h, pb_true h2, pb_true ⟨h, h2⟩]; rfl
    · have g : ¬ (P ∧ Q) := fun z => h2 z.2
      rw [pb_true h, pb_false h2, pb_false g]; rfl
  · have g : ¬ (P ∧ Q) := fun z => h z.1
    rw [pb_false h, pb_false g]; rfl
/-! ### the set of a range -/
theorem bld_bnds {p : Int → Bool} : ∀ (es : List Int), (∀ z ∈ bnds (bld p none es), z ∈ es) ∧ ∀ l, ∀ z ∈ bnds (bld p (some l) es), z = l ∨ z ∈ es
  | [] => ⟨fun z hz => by simp [bld, bnds] at hz, fun l z hz => by simp [bld, bnds] at hz; exact .inl hz⟩
  | c :: es => by
    obtain ⟨h1, h2⟩ := bld_bnds (p := p) es
    refine ⟨fun z hz => ?_, fun l z hz => ?_⟩
    · cases h : p c
      · simp only [bld, h] at hz
        exact List.mem_cons_of_mem _ (h1 z hz)
      · simp only [bld, h, if_true] at hz
        rcases h2 c z hz with rfl | h
        · exact List.mem_cons_self
        · exact List.mem_cons_of_mem _ h
    · cases h : p c
      · simp only [bld, h] at hz
        unfold bnds at hz h1
        rw [if_neg (by decide), List.flatMap_cons] at hz
        simp only [Option.toList, List.cons_append, List.nil_append, List.mem_cons] at hz
        rcases hz with rfl | rfl | hz
        · exact .inl rfl
        · exact .inr List.mem_cons_self
        · exact .inr (List.mem_cons_of_mem _ (h1 z hz))
      · simp only [bld, h, if_true] at hz
        exact (h2 l z hz).imp id (List.mem_cons_of_mem _)
theorem jn_bnds {w : Str} {s t : Sts} {z : Int} (h : z ∈ bnds (jn w s t)) : z ∈ bnds s ∨ z ∈ bnds t := by
  unfold jn at h
  rw [build_bld] at h
  exact edg_mem.mp ((bld_bnds _).1 z h)
def Tp (x : Int) : Bool := decide (1000000000 ≤ x)
structure Rs (p : Int → Bool) (n : Nat) (s : Sts) : Prop where
  rg : Rg s
  ln : s.length ≤ n
  bd : ∀ z ∈ bnds s, Tn 999 z
  hs : ∀ x, hasN s x = p x
section
variable {p q : Int → Bool} {n k : Nat} {s t : Sts}
theorem Rs.low (h : Rs p n s) {x : Int} (hx : p x = true) : Tp x = true := by
  by_cases g : 1000000000 ≤ x
  · exact decide_eq_true g
  · have := h.rg.low (x := x) (by omega)
    rw [h.hs, hx] at this
    cases this
theorem Rs.ext (h : Rs p n s) (g : Rs q k t) (hx : ∀ x, p x = q x) : s = t := canon_ext h.rg g.rg fun x => by rw [h.hs, g.hs, hx]
theorem Rs.ext_iff (h : Rs p n s) (g : Rs q k t) : s = t ↔ ∀ x, p x = q x := ⟨fun z x => by rw [← h.hs, ← g.hs, z], h.ext g⟩
theorem Rs.congr (h : Rs p n s) (hx : ∀ x, p x = q x) : Rs q n s := ⟨h.rg, h.ln, h.bd, fun x => by rw [h.hs, hx]⟩
theorem Rs.mono (h : Rs p n s) (hn : n ≤ k) : Rs p k s := ⟨h.rg, Nat.le_trans h.ln hn, h.bd, h.hs⟩
theorem Rs.jn {w : Str} (hw : Wd w) (h : Rs p n s) (g : Rs q k t) : Rs (fun x => wf w (p x) (q x)) (n + k + 1) (jn w s t) :=
  ⟨jn_rg hw h.rg.ok g.rg.ok, by have := jn_len (w := w) (s := s) (t := t); have := h.ln; have := g.ln; omega, fun z hz => (jn_bnds hz).elim (h.bd z) (g.bd z), fun x => by rw [jn_has hw h.rg.ok g.rg.ok, h.hs, g.hs]⟩
theorem Rs.and (h : Rs p n s) (g : Rs q k t) : Rs (fun x => p x && q x) (n + k + 1) (PG.jn "and" s t) := Rs.jn (.inl rfl) h g
theorem wf_or {a b : Bool} : wf "or" a b = (a || b) := by
  unfold wf; rw [if_neg (by decide +kernel), if_pos rfl]
theorem wf_less {a b : Bool} : wf "less" a b = (a && !b) := by
  unfold wf; rw [if_neg (by decide +kernel), if_neg (by decide +kernel), if_pos rfl]
theorem wf_unlike {a b : Bool} : wf "unlike" a b = (a != b) := by
  unfold wf; rw [if_neg (by decide +kernel), if_neg (by decide +kernel), if_neg (by decide +kernel)]
theorem Rs.or (h : Rs p n s) (g : Rs q k t) : Rs (fun x => p x || q x) (n + k + 1) (PG.jn "or" s t) := (Rs.jn (.inr (.inl rfl)) h g).congr fun x => wf_or
theorem Rs.less (h : Rs p n s) (g : Rs q k t) : Rs (fun x => p x && !q x) (n + k + 1) (PG.jn "less" s t) := (Rs.jn (.inr (.inr (.inl rfl))) h g).congr fun x => wf_less
theorem Rs.unlike (h : Rs p n s) (g : Rs q k t) : Rs (fun x => p x != q x) (n + k + 1) (PG.jn "unlike" s t) := (Rs.jn (.inr (.inr (.inr rfl))) h g).congr fun x => wf_unlike
theorem Rs.wh : Rs Tp 1 wh := ⟨wh_rg, Nat.le_refl _, fun z hz => by
  simp [bnds, PG.wh] at hz
  subst hz
  exact ⟨by omega, by omega, by omega⟩, fun x => by simp [hasN, inS, PG.wh, Tp]⟩
theorem Rs.nil : Rs (fun _ => false) 0 [] := ⟨.nil, Nat.le_refl _, (fun z hz => by cases hz), fun x => rfl⟩
theorem Rs.inv (h : Rs p n s) : Rs (fun x => Tp x && !p x) (n + 2) (PG.jn "less" PG.wh s) := (Rs.wh.less h).mono (by omega)
theorem TnS.bd {m : Int} (h : TnS m s) : ∀ z ∈ bnds s, Tn m z := by
  intro z hz
  unfold bnds at hz
  obtain ⟨r, hr, hz⟩ := List.mem_flatMap.mp hz
  obtain ⟨h1, h2⟩ := h r hr
  rcases List.mem_cons.mp hz with rfl | hz
  · exact h1
  · exact (h2 z (by simpa using hz)).1
theorem Tn.mono {a b z : Int} (h : Tn a z) (hb : a ≤ b) : Tn b z := ⟨h.1, Int.le_trans h.2.1 hb, Int.le_trans h.2.2 hb⟩
theorem Rs.mk' (h : ∀ z ∈ bnds s, Tn 999 z) (ho : OkS s) : Rs (hasN s) (s.length + 1) (PG.jn "or" s []) :=
  ⟨jn_rg (.inr (.inl rfl)) ho Rs.nil.rg.ok, jn_len, fun z hz => (jn_bnds hz).elim (h z) (fun z => by cases z), fun x => by
    rw [jn_has (.inr (.inl rfl)) ho Rs.nil.rg.ok, wf_or]
    show (hasN s x || false) = _
    simp⟩
theorem mem_bnds {r : Int × Option Int} (h : r ∈ s) : r.1 ∈ bnds s ∧ ∀ z, r.2 = some z → z ∈ bnds s := by
  unfold bnds
  refine ⟨List.mem_flatMap.mpr ⟨r, h, List.mem_cons_self⟩, fun z hz => List.mem_flatMap.mpr ⟨r, h, List.mem_cons_of_mem _ ?_⟩⟩
  rw [hz]
  simp
theorem Rs.tn (h : Rs p n s) : TnS 999 s := fun r hr => ⟨h.bd _ (mem_bnds hr).1, fun z hz => ⟨h.bd _ ((mem_bnds hr).2 z hz), (h.rg.ok r hr).2 z hz⟩⟩
theorem Tn.sm {z : Int} (h : Tn 999 z) : Sm z := ⟨h.1, by have := h.2.1; omega⟩
theorem TnS.sm (h : TnS 999 s) : SmS s := fun r hr => ⟨(h r hr).1.sm, fun z hz => ((h r hr).2 z hz).1.sm⟩
theorem Rs.empty (h : Rs p n s) : s = [] ↔ ∀ x, p x = false := h.ext_iff Rs.nil
/-! ### what comes to a range -/
def Ev (m : EM Opd) (e : En) (p : Int → Bool) (n : Nat) : Prop := ∃ o s, m e = .ok o e ∧ At e o s ∧ Rs p n s
variable {m m' : EM Opd}
theorem ev_slot {i : Nat} (h : e[i]? = some (some (.val (PG.rg s)))) (r : Rs p n s) : Ev (slotM i) e p n := ⟨.slot i, s, by simp [h], At.slot h, r⟩
theorem ev_of {r : EM RV} (h : r e = .ok (.own (rgO s)) e) (g : Rs p n s) : Ev (opdM r) e p n := ⟨.pv (PG.rg s), s, by simp [h]; rfl, At.pv, g⟩
theorem two_ev {f : Opd → Opd → EM RV} (h : Ev m e p n) (g : Ev m' e q k) {P : RV → Prop} (H : ∀ o o' s t, At e o s → At e o' t → Rs p n s → Rs q k t → ∃ r, f o o' e = .ok r e ∧ P r) : ∃ r, twoO m m' f e = .ok r e ∧ P r := by
  obtain ⟨o, s, h1, h2, h3⟩ := h
  obtain ⟨o', t, g1, g2, g3⟩ := g
  obtain ⟨r, hr, hp⟩ := H o o' s t h2 g2 h3 g3
  exact ⟨r, by simp [h1, g1, hr], hp⟩
theorem ev_two {f : Opd → Opd → EM RV} {p' : Int → Bool} {n' : Nat} (h : Ev m e p n) (g : Ev m' e q k) (H : ∀ o o' s t, At e o s → At e o' t → Rs p n s → Rs q k t → ∃ u, f o o' e = .ok (.own (rgO u)) e ∧ Rs p' n' u) : Ev (opdM (twoO m m' f)) e p' n' := by
  obtain ⟨r, hr, u, rfl, hu⟩ := two_ev (f := f) (P := fun r => ∃ u, r = .own (rgO u) ∧ Rs p' n' u) h g fun o o' s t a b c d => by
    obtain ⟨u, h1, h2⟩ := H o o' s t a b c d
    exact ⟨_, h1, u, rfl, h2⟩
  exact ev_of hr hu
theorem ev_and (F : FqC fq) (h : Ev m e p n) (g : Ev m' e q k) (hn : n ≤ 400) (hk : k ≤ 400) : Ev (opdM (twoO m m' (opX fq [⟨"Range", E_Range___and__ fq⟩] .BitAnd))) e (fun x => p x && q x) (n + k + 1) :=
  ev_two h g fun o o' s t a b c d => ⟨_, opX_and F.g a b c.rg d.rg (Nat.le_trans c.ln hn) (Nat.le_trans d.ln hk), c.and d⟩
theorem ev_or (F : FqC fq) (h : Ev m e p n) (g : Ev m' e q k) (hn : n ≤ 400) (hk : k ≤ 400) : Ev (opdM (twoO m m' (opX fq [⟨"Range", E_Range___or__ fq⟩] .BitOr))) e (fun x => p x || q x) (n + k + 1) :=
  ev_two h g fun o o' s t a b c d => ⟨_, opX_or F.g a b c.rg d.rg (Nat.le_trans c.ln hn) (Nat.le_trans d.ln hk), c.or d⟩
theorem ev_sub (F : FqC fq) (h : Ev m e p n) (g : Ev m' e q k) (hn : n ≤ 400) (hk : k ≤ 400) : Ev (opdM (twoO m m' (opX fq [⟨"Range", E_Range___sub__ fq⟩] .Sub))) e (fun x => p x && !q x) (n + k + 1) :=
  ev_two h g fun o o' s t a b c d => ⟨_, opX_sub F.g a b c.rg d.rg (Nat.le_trans c.ln hn) (Nat.le_trans d.ln hk), c.less d⟩
theorem ev_xor (F : FqC fq) (h : Ev m e p n) (g : Ev m' e q k) (hn : n ≤ 400) (hk : k ≤ 400) : Ev (opdM (twoO m m' (opX fq [⟨"Range", E_Range___xor__ fq⟩] .BitXor))) e (fun x => p x != q x) (n + k + 1) :=
  ev_two h g fun o o' s t a b c d => ⟨_, opX_xor F.g a b c.rg d.rg (Nat.le_trans c.ln hn) (Nat.le_trans d.ln hk), c.unlike d⟩
theorem inv_at (F : FqC fq) (h : Ev m e p n) (hn : n ≤ 400) : ∃ u, (m.bind (invX [⟨"Range", E_Range___invert__ fq⟩])) e = .ok (.own (rgO u)) e ∧ Rs (fun x => Tp x && !p x) (n + 2) u := by
  obtain ⟨o, s, h1, h2, h3⟩ := h
  refine ⟨_, ?_, h3.inv⟩
  unfold EM.bind
  simp only [h1]
  exact invX_rg F.g h2 h3.rg (Nat.le_trans h3.ln hn)
theorem ev_inv (F : FqC fq) (h : Ev m e p n) (hn : n ≤ 400) : Ev (opdM (m.bind (invX [⟨"Range", E_Range___invert__ fq⟩]))) e (fun x => Tp x && !p x) (n + 2) := by
  obtain ⟨u, h1, h2⟩ := inv_at F h hn
  exact ev_of h1 h2
theorem ev_every (F : FqC fq) : Ev (opdM (cmethM [⟨"Range", E_Range_every fq⟩] "every" 1 [] (opdM (EM.ret (.val (.cls "Range")))) opdsNil opdsNil)) e Tp 1 := ev_of (every_cm F.g) Rs.wh
theorem ev_nothing (F : FqC fq) : Ev (opdM (cmethM [⟨"Range", E_Range_nothing fq⟩] "nothing" 1 [] (opdM (EM.ret (.val (.cls "Range")))) opdsNil opdsNil)) e (fun _ => false) 0 := ev_of (nothing_cm F.g) Rs.nil
/-! ### compared -/
theorem two_val {f : Opd → Opd → EM RV} {v : RV} (h : Ev m e p n) (g : Ev m' e q k) (H : ∀ o o' s t, At e o s → At e o' t → Rs p n s → Rs q k t → f o o' e = .ok v e) : twoO m m' f e = .ok v e := by
  obtain ⟨r, hr, rfl⟩ := two_ev (P := (· = v)) h g fun o o' s t a b c d => ⟨_, H o o' s t a b c d, rfl⟩
  exact hr
theorem v_eq (F : FqC fq) (h : Ev m e p n) (g : Ev m' e q k) : twoO m m' (cmpX fq [⟨"Range", E_Range___eq__ fq⟩] .Eq) e = .ok (.val (.bl (pb (∀ x, p x = q x)))) e :=
  two_val h g fun o o' s t a b c d => by rw [cmpX_eq F.g F.nf a b, pb_eq, pb_congr (c.ext_iff d)]
theorem v_ne (F : FqC fq) (h : Ev m e p n) (g : Ev m' e q k) : twoO m m' (cmpX fq [⟨"Range", E_Range___eq__ fq⟩] .NotEq) e = .ok (.val (.bl (!pb (∀ x, p x = q x)))) e :=
  two_val h g fun o o' s t a b c d => by rw [cmpX_ne F.g F.nf a b, pb_eq, pb_congr (c.ext_iff d)]
theorem less_nil (c : Rs p n s) (d : Rs q k t) : jn "less" s t = [] ↔ ∀ x, p x = true → q x = true := by
  rw [(c.less d).empty]
  refine ⟨fun h x hx => ?_, fun h x => ?_⟩
  · have := h x
    rw [hx] at this
    simpa using this
  · cases hp : p x with
    | false => rfl
    | true => rw [h x hp]; rfl
theorem v_le (F : FqC fq) (h : Ev m e p n) (g : Ev m' e q k) (hn : n ≤ 400) (hk : k ≤ 400) : twoO m m' (cmpX fq [⟨"Range", E_Range___le__ fq⟩] .LtE) e = .ok (.val (.bl (pb (∀ x, p x = true → q x = true)))) e :=
  two_val h g fun o o' s t a b c d => by rw [cmpX_le F.g F.nf a b (Nat.le_trans c.ln hn) (Nat.le_trans d.ln hk), pb_eq, pb_congr (less_nil c d)]
theorem v_ge (F : FqC fq) (h : Ev m e p n) (g : Ev m' e q k) (hn : n ≤ 400) (hk : k ≤ 400) : twoO m m' (cmpX fq [⟨"Range", E_Range___ge__ fq⟩] .GtE) e = .ok (.val (.bl (pb (∀ x, q x = true → p x = true)))) e :=
  two_val h g fun o o' s t a b c d => by rw [cmpX_ge F.g F.nf a b (Nat.le_trans c.ln hn) (Nat.le_trans d.ln hk), pb_eq, pb_congr (less_nil d c)]
theorem v_lt (F : FqC fq) (h : Ev m e p n) (g : Ev m' e q k) (hn : n ≤ 400) (hk : k ≤ 400) : twoO m m' (cmpX fq [⟨"Range", E_Range___lt__ fq⟩] .Lt) e = .ok (.val (.bl (pb (∀ x, p x = true → q x = true) && !pb (∀ x, p x = q x)))) e :=
  two_val h g fun o o' s t a b c d => by rw [cmpX_lt F.g F.nf a b (Nat.le_trans c.ln hn) (Nat.le_trans d.ln hk), pb_eq, pb_eq, pb_congr (less_nil c d), pb_congr (c.ext_iff d)]
theorem v_gt (F : FqC fq) (h : Ev m e p n) (g : Ev m' e q k) (hn : n ≤ 400) (hk : k ≤ 400) : twoO m m' (cmpX fq [⟨"Range", E_Range___gt__ fq⟩] .Gt) e = .ok (.val (.bl (pb (∀ x, q x = true → p x = true) && !pb (∀ x, p x = q x)))) e :=
  two_val h g fun o o' s t a b c d => by rw [cmpX_gt F.g F.nf a b (Nat.le_trans c.ln hn) (Nat.le_trans d.ln hk), pb_eq, pb_eq, pb_congr (less_nil d c), pb_congr (c.ext_iff d)]
theorem v_bool (F : FqC fq) (h : Ev m e p n) : bltO (opdsCons m opdsNil) (boolX [⟨"Range", E_Range___bool__ fq⟩]) e = .ok (.val (.bl (!pb (∀ x, p x = false)))) e := by
  obtain ⟨o, s, h1, h2, h3⟩ := h
  have b : (!s.isEmpty) = !pb (∀ x, p x = false) := by
    rw [← pb_congr h3.empty, ← pb_eq]
    cases s <;> simp
  rw [← b]
  simp [h1, boolX_rg F.g h2]
theorem v_len (F : FqC fq) (h : Ev m e p n) (hn : n ≤ 400) : ∃ l : Nat, bltO (opdsCons m opdsNil) (lenX [⟨"Range", E_Range___len__ fq⟩]) e = .ok (.val (.int l)) e ∧ (0 < l ↔ ¬ ∀ x, p x = false) := by
  obtain ⟨o, s, h1, h2, h3⟩ := h
  refine ⟨s.length, ?_, ?_⟩
  · simp [h1, lenX_rg F.g h2 (by have := h3.ln; omega)]
  · rw [← h3.empty]
    cases s <;> simp
end
end PG

namespace PG
open PySem L2 QB RM
/-! ### releases in texts -/
def cl1 (c : Nat) : Bool := match PySem.intText? ⟨#[c]⟩ with
  | some n => decide (n ≤ 999)
  | none => true
def cl2 (c d : Nat) : Bool := match PySem.intText? ⟨#[c, d]⟩ with
  | some n => decide (n ≤ 999)
  | none => true
def cl3 (c d f : Nat) : Bool := match PySem.intText? ⟨#[c, d, f]⟩ with
  | some n => decide (n ≤ 999)
  | none => true
theorem cl1_all : (dgs.cps.toList.all cl1) = true := by decide +kernel
theorem cl2_all : (dgs.cps.toList.all fun c => dgs.cps.toList.all fun d => cl2 c d) = true := by decide +kernel
theorem cl3_all : (dgs.cps.toList.all fun c => dgs.cps.toList.all fun d => dgs.cps.toList.all fun f => cl3 c d f) = true := by decide +kernel
theorem intText_le {x : Str} {n : Int} (h : gd x = true) (hn : PySem.intText? x = some n) : n ≤ 999 := by
  unfold gd at h
  simp only [Bool.and_eq_true, decide_eq_true_eq] at h
  obtain ⟨⟨h1, h2⟩, h3⟩ := h
  have m : ∀ {c : Nat}, dg c = true → c ∈ dgs.cps.toList := fun h => of_decide_eq_true h
  obtain ⟨⟨l⟩⟩ := x
  have fin : ∀ {o : Option Int}, o = some n → (match o with
    | some n => decide (n ≤ 999)
    | none => true) = true → n ≤ 999 := fun {o} ho h => by
    subst ho
    exact of_decide_eq_true h
  match l, h1, h2, h3, hn with
  | [], h1, _, _, _ => simp [Str.length] at h1
  | [c], _, _, h3, hn =>
    simp at h3
    exact fin hn (List.all_eq_true.mp cl1_all c (m h3))
  | [c, d], _, _, h3, hn =>
    simp at h3
    exact fin hn (List.all_eq_true.mp (List.all_eq_true.mp cl2_all c (m h3.1)) d (m h3.2))
  | [c, d, f], _, _, h3, hn =>
    simp at h3
    exact fin hn (List.all_eq_true.mp (List.all_eq_true.mp (List.all_eq_true.mp cl3_all c (m h3.1)) d (m h3.2.1)) f (m h3.2.2))
  | _ :: _ :: _ :: _ :: _, _, h2, _, _ => simp [Str.length] at h2
theorem nIn_le {x : Str} {i : Int} (h : nIn x = some i) : 0 ≤ i ∧ i ≤ 999 := by
  refine ⟨nIn_pos h, ?_⟩
  unfold nIn at h
  split at h
  · rename_i hg
    split at h
    · cases h
    · exact intText_le hg h
  · cases h
/-- the release that a text tells -/
def relO (x : Str) : Option Int := match Txt.split x dot with
  | [a, b] => match nIn a, nIn b with
    | some i, some j => if 1 ≤ i then some (i * 1000000000 + j) else none
    | _, _ => none
  | _ => none
theorem relIn_O (x : Str) : relIn x = enO (relO x) := by
  unfold relIn relT relO
  match hw : Txt.split x dot with
  | [] => rfl
  | [a] =>
    cases h1 : nIn a <;> simp [h1, oi, isRel, enO]
  | [a, b] =>
    cases h1 : nIn a with
    | none => cases h2 : nIn b <;> simp [h1, h2, oi, isRel, enO]
    | some i =>
      cases h2 : nIn b with
      | none => simp [h1, h2, oi, isRel, enO]
      | some j =>
        obtain ⟨j0, j1⟩ := nIn_le h2
        have E := enc_of (a := i) (b := j) j0 (by omega)
        by_cases hi : 1 ≤ i <;> simp [h1, h2, oi, isRel, hi, j0, enO, ← E]
  | a :: b :: c :: r => simp [isRel, enO]
theorem relO_tn {x : Str} {n : Int} (h : relO x = some n) : Tn 999 n := by
  unfold relO at h
  split at h
  · split at h
    · rename_i i j h1 h2
      obtain ⟨i0, i1⟩ := nIn_le h1
      obtain ⟨j0, j1⟩ := nIn_le h2
      split at h
      · cases h
        exact ⟨by omega, by omega, by omega⟩
      · cases h
    · cases h
  · cases h
def evn (n : Nat) : Bool := decide (nIn (Str.ofString (toString (n : Int))) = some (n : Int))
theorem evn_all : (List.range 1000).all evn = true := by decide +kernel
theorem nIn_num {i : Int} (h0 : 0 ≤ i) (h1 : i ≤ 999) : nIn (numS i) = some i := by
  obtain ⟨n, rfl⟩ := Int.eq_ofNat_of_zero_le h0
  have h := List.all_eq_true.mp evn_all n (List.mem_range.mpr (by omega))
  exact of_decide_eq_true h
theorem relO_tx {n : Int} (h : Tn 999 n) : relO (tx n) = some n := by
  obtain ⟨h1, h2, h3⟩ := h
  have hs : Txt.split (tx n) dot = [numS (n / 1000000000), numS (n % 1000000000)] := by
    refine split2 (c := 46) (by decide +kernel) dot_kind ?_ ?_
    · exact dot_num (by omega) (by omega)
    · exact dot_num (by omega) (by omega)
  unfold relO
  rw [hs]
  dsimp only
  rw [nIn_num (by omega) h2, nIn_num (by omega) h3]
  dsimp only
  rw [if_pos (by omega)]
  congr 1
  omega
/-! ### stretches in texts -/
def blank : Str := " "
def geS : Str := ">="
def ltS : Str := "<"
def st2 (lo : Option Int) : List Str → Option (Int × Option Int)
  | [v] => if cutS v none (some 1) == ltS then (match lo, relO (cutS v (some 1) none) with
    | some l, some h => if l < h then some (l, some h) else none
    | _, _ => none) else none
  | _ => none
def stW : List Str → Option (Int × Option Int)
  | [] => none
  | w :: r => if cutS w none (some 2) == geS then (match r with
    | [] => (relO (cutS w (some 2) none)).map fun l => (l, none)
    | v :: r => st2 (relO (cutS w (some 2) none)) (v :: r)) else st2 (some 1000000000) (w :: r)
def stIn (x : Str) : Option (Int × Option Int) := stW (Txt.split x blank)
def stO : Option (Int × Option Int) → PV
  | none => .non
  | some p => enP p
theorem isst_eq {fq : List Fq} {a b : Option Int} (ha : ∀ n, a = some n → Tn 999 n) (hb : ∀ n, b = some n → Tn 999 n) : ∃ e, sem_is_stretch fq [.val (.tup [enO a, enO b])] = .ret (.val (.bl (match a, b with
    | some l, some h => decide (l < h)
    | some _, none => true
    | none, _ => false))) e := by
  cases a with
  | none =>
    obtain ⟨e1, E1⟩ := isrel_eq (fq := fq) (p := .non) ⟨.none, rfl⟩
    have E1' : sem_is_release fq [.val .non] = .ret (.val (.bl false)) e1 := E1
    simp [sem_is_stretch, m_is_stretch, enO, sh_is_release_0, pick, Src.get, E1']
  | some l =>
    obtain ⟨e1, E1⟩ := isrel_eq (fq := fq) (dt_enc (n := l))
    rw [isRel_enc (ha l rfl).1] at E1
    cases b with
    | none => simp [sem_is_stretch, m_is_stretch, enO, sh_is_release_0, pick, Src.get, E1]
    | some k =>
      obtain ⟨e2, E2⟩ := isrel_eq (fq := fq) (dt_enc (n := k))
      rw [isRel_enc (hb k rfl).1] at E2
      simp [sem_is_stretch, m_is_stretch, enO, sh_is_release_0, pick, Src.get, E1, E2]
end PG

namespace PG
open PySem L2 QB RM
variable {fq : List Fq} {e : En}
theorem datas_str : ∀ {ws : List Str}, datas (ws.map PV.str) = some (ws.map PyData.str)
  | [] => rfl
  | w :: ws => by
    show (match (PV.str w).data, datas (ws.map PV.str) with
      | some d, some ds => some (d :: ds)
      | _, _ => none) = _
    rw [datas_str]
    rfl
theorem lay_str : ∀ {ws : List Str}, (∀ w ∈ ws, PyData.strOk w = true) → PyData.canLayAll0 (ws.map PyData.str) = true ∧ PyData.depthAll (ws.map PyData.str) ≤ 2
  | [], _ => ⟨rfl, by show 0 ≤ 2; decide⟩
  | w :: ws, h => by
    obtain ⟨h1, h2⟩ := lay_str (ws := ws) fun v hv => h v (List.mem_cons_of_mem _ hv)
    refine ⟨?_, ?_⟩
    · show (PyData.strOk w && PyData.canLayAll0 (ws.map PyData.str)) = true
      rw [h1, h w List.mem_cons_self]
      rfl
    · show max 0 (PyData.depthAll (ws.map PyData.str)) ≤ 2
      omega
theorem shp_strs {ws : List Str} (h : ∀ w ∈ ws, PyData.strOk w = true) : shp (.list (ws.map PyData.str)) = true := by
  obtain ⟨h1, h2⟩ := lay_str h
  show (PyData.canLayAll0 (ws.map PyData.str) && decide (PyData.depthAll (ws.map PyData.str) + 1 ≤ 64)) = true
  rw [h1, decide_eq_true (by omega)]
  rfl
theorem c_eq_s0 {ws : List Str} (h : ∀ w ∈ ws, PyData.strOk w = true) : opC .Eq (.lst (ws.map PV.str)) (.lst []) e = .ok (.val (.bl ws.isEmpty)) e := by
  have : eqP (.lst (ws.map PV.str)) (.lst []) = some ws.isEmpty := by
    unfold eqP PV.data
    rw [datas_str]
    show (if shp (.list (ws.map PyData.str)) && shp (.list []) then some (PyData.eqvAll (ws.map PyData.str) []) else none) = _
    rw [shp_strs h, show shp (.list []) = true from rfl]
    cases ws <;> rfl
  rw [opEq_app, this]
theorem cut_tail {x : PV} {xs : List PV} : cutP (x :: xs) (some 1) none = xs := by
  unfold cutP
  rw [HT.sIx_none, show (some (1 : Int)) = some ((1 : Nat) : Int) from rfl, HT.sIx_nat]
  simp
theorem sl_str {x : Str} {lo hi : Option Int} (h : x.length ≤ 16777216) : slP (.str x) lo hi e = .ok (.val (.str (cutS x lo hi))) e := by
  show (if szOk x.length then EM.ret (RV.val (.str (cutS x lo hi))) else EM.bad) e = _
  rw [show szOk x.length = true from decide_eq_true h]
  rfl
theorem sl_tail {x : PV} {xs : List PV} : slP (.lst (x :: xs)) (some 1) none e = .ok (.own (.lst xs)) e := by
  show EM.ret (RV.own (.lst (cutP (x :: xs) (some 1) none))) e = _
  rw [cut_tail]
  rfl
theorem blank_ne : TL.tl blank ≠ [] := by decide +kernel
theorem blank_kind : blank.cps.all (· < 256) = true := by decide +kernel
theorem ge_ok : PyData.strOk geS = true := by decide +kernel
theorem lt_ok : PyData.strOk ltS = true := by decide +kernel
theorem stretchin_eq {x : Str} (h : Tx 900 x) : ∃ e, sem_stretch_in fq [.val (.str x)] = .ret (.val (stO (stIn x))) e := by
  have lt : x.length + 2 ≤ sizeLine := by rw [sizeLine_eq]; have := h.2; omega
  have l0 : (Str.ofString " ").length = 1 := by decide +kernel
  have ws := split_tx h blank_ne blank_kind
  unfold stIn
  have eb : blank = Str.ofString " " := rfl
  rw [eb] at ws ⊢
  have c1 : ∀ {w : Str} {e : En}, Tx 900 w → opC .Eq (.str (cutS w none (some 2))) (.str (Str.ofString ">=")) e = .ok (.val (.bl (cutS w none (some 2) == geS))) e := fun hw => by
    rw [opEq_app, eqP_str hw.cut.1 (show PyData.strOk (Str.ofString ">=") = true from ge_ok)]
    rfl
  have c2 : ∀ {w : Str} {e : En}, Tx 900 w → opC .Eq (.str (cutS w none (some 1))) (.str (Str.ofString "<")) e = .ok (.val (.bl (cutS w none (some 1) == ltS))) e := fun hw => by
    rw [opEq_app, eqP_str hw.cut.1 (show PyData.strOk (Str.ofString "<") = true from lt_ok)]
    rfl
  have R : ∀ {w : Str} (lo : Option Int) (hi : Option Int), Tx 900 w → ∃ e, sem_release_in fq [.val (.str (cutS w lo hi))] = .ret (.val (enO (relO (cutS w lo hi)))) e := fun lo hi hw => by
    obtain ⟨e1, E1⟩ := in_eq (fq := fq) hw.cut
    exact ⟨e1, by rw [E1, relIn_O]⟩
  have sl : ∀ {w : Str} {lo hi : Option Int} {e : En}, Tx 900 w → slP (.str w) lo hi e = .ok (.val (.str (cutS w lo hi))) e := fun hw => sl_str (by have := hw.2; omega)
  have T1 : ∀ n, some (1000000000 : Int) = some n → Tn 999 n := fun n z => by cases z; exact ⟨by omega, by omega, by omega⟩
  match hw : Txt.split x (Str.ofString " "), ws with
  | [], ws =>
    exfalso
    have := congrArg List.length (TL.split_spl x blank blank_ne (TL.kind_ok blank_kind))
    rw [eb, hw] at this
    have h2 : ∀ (S : List Nat) (l : List Nat) (k : Nat) (acc : List Nat), (TL.spl S k acc l).length ≠ 0 := fun S l => by
      induction l with
      | nil => intro k acc; rw [TL.spl_nil]; simp
      | cons c r ih =>
        intro k acc
        cases k with
        | zero =>
          cases h : TL.pre S (c :: r) with
          | true => rw [TL.spl_hit h]; simp
          | false => rw [TL.spl_miss h]; exact ih _ _
        | succ k => exact ih k acc
    exact h2 _ _ _ _ this.symm
  | [w], ws =>
    have tw := ws w (by simp)
    obtain ⟨e1, E1⟩ := R (some 2) none tw
    obtain ⟨e2, E2⟩ := R (some 1) none tw
    have hr := fun n => relO_tn (x := cutS w (some 2) none) (n := n)
    have hr2 := fun n => relO_tn (x := cutS w (some 1) none) (n := n)
    obtain ⟨e3, E3⟩ := isst_eq (fq := fq) (a := some 1000000000) (b := relO (cutS w (some 1) none)) T1 hr2
    have z0 : ∀ e : En, opC .Eq (.lst []) (.lst []) e = .ok (.val (.bl true)) e := fun e => c_eq_s0 (ws := []) (fun _ h => by cases h)
    cases hg : cutS w none (some 2) == geS with
    | true =>
      cases ho : relO (cutS w (some 2) none) with
      | none =>
        rw [ho] at E1
        simp [sem_stretch_in, m_stretch_in, l0, lt, hw, strsP, sl tw, c1 tw, hg, sh_release_in_0, pick, Src.get, E1, sl_tail, z0, stW, ho, enO, stO]
      | some l =>
        rw [ho] at E1
        simp [sem_stretch_in, m_stretch_in, l0, lt, hw, strsP, sl tw, c1 tw, hg, sh_release_in_0, pick, Src.get, E1, sl_tail, z0, stW, ho, enO, stO, enP]
    | false =>
      cases hl : cutS w none (some 1) == ltS with
      | false => simp [sem_stretch_in, m_stretch_in, l0, lt, hw, strsP, sl tw, c1 tw, hg, c2 tw, hl, stW, st2, stO]
      | true =>
        cases ho : relO (cutS w (some 1) none) with
        | none =>
          rw [ho] at E2
          simp [sem_stretch_in, m_stretch_in, l0, lt, hw, strsP, sl tw, c1 tw, hg, c2 tw, hl, sh_release_in_0, pick, Src.get, E2, stW, st2, ho, enO, stO]
        | some k =>
          rw [ho] at E2 E3
          have fe : c_FIRST = enc 1000000000 := first_en
          by_cases hk : 1000000000 < k
          · simp [enO, hk] at E3
            simp [sem_stretch_in, m_stretch_in, l0, lt, hw, strsP, sl tw, c1 tw, hg, c2 tw, hl, sh_release_in_0, sh_is_stretch_0, pick, Src.get, E2, stW, st2, ho, enO, stO, enP, fe, E3, hk]
          · simp [enO, hk] at E3
            simp [sem_stretch_in, m_stretch_in, l0, lt, hw, strsP, sl tw, c1 tw, hg, c2 tw, hl, sh_release_in_0, sh_is_stretch_0, pick, Src.get, E2, stW, st2, ho, enO, stO, enP, fe, E3, hk]
  | [w, v], ws =>
    have tw := ws w (by simp)
    have tv := ws v (by simp)
    obtain ⟨e1, E1⟩ := R (some 2) none tw
    obtain ⟨e2, E2⟩ := R (some 1) none tv
    have hr := fun n => relO_tn (x := cutS w (some 2) none) (n := n)
    have hr2 := fun n => relO_tn (x := cutS v (some 1) none) (n := n)
    obtain ⟨e3, E3⟩ := isst_eq (fq := fq) (a := relO (cutS w (some 2) none)) (b := relO (cutS v (some 1) none)) hr hr2
    have z0 : ∀ e : En, opC .Eq (.lst [.str v]) (.lst []) e = .ok (.val (.bl false)) e := fun e => c_eq_s0 (ws := [v]) (fun u hu => by rw [List.mem_singleton] at hu; subst hu; exact tv.1)
    cases hg : cutS w none (some 2) == geS with
    | false => simp [sem_stretch_in, m_stretch_in, l0, lt, hw, strsP, sl tw, c1 tw, hg, stW, st2, stO]
    | true =>
      generalize ha : relO (cutS w (some 2) none) = a at *
      cases hl : cutS v none (some 1) == ltS with
      | false => simp [sem_stretch_in, m_stretch_in, l0, lt, hw, strsP, sl tw, c1 tw, hg, sh_release_in_0, pick, Src.get, E1, sl_tail, z0, sl tv, c2 tv, hl, stW, st2, stO]
      | true =>
        cases ho : relO (cutS v (some 1) none) with
        | none =>
          rw [ho] at E2
          cases a <;> simp [sem_stretch_in, m_stretch_in, l0, lt, hw, strsP, sl tw, c1 tw, hg, sh_release_in_0, pick, Src.get, E1, sl_tail, z0, sl tv, c2 tv, hl, E2, stW, st2, ha, ho, enO, stO]
        | some k =>
          rw [ho] at E2 E3
          cases a with
          | none =>
            simp [enO] at E3 E1 E2
            simp [sem_stretch_in, m_stretch_in, l0, lt, hw, strsP, sl tw, c1 tw, hg, sh_release_in_0, sh_is_stretch_0, pick, Src.get, E1, sl_tail, z0, sl tv, c2 tv, hl, E2, E3, stW, st2, ha, ho, enO, stO]
          | some l =>
            by_cases hk : l < k
            · simp [enO, hk] at E3 E1 E2
              simp [sem_stretch_in, m_stretch_in, l0, lt, hw, strsP, sl tw, c1 tw, hg, sh_release_in_0, sh_is_stretch_0, pick, Src.get, E1, sl_tail, z0, sl tv, c2 tv, hl, E2, E3, stW, st2, ha, ho, enO, stO, enP, hk]
            · simp [enO, hk] at E3 E1 E2
              simp [sem_stretch_in, m_stretch_in, l0, lt, hw, strsP, sl tw, c1 tw, hg, sh_release_in_0, sh_is_stretch_0, pick, Src.get, E1, sl_tail, z0, sl tv, c2 tv, hl, E2, E3, stW, st2, ha, ho, enO, stO, enP, hk]
  | w :: v :: u :: r, ws =>
    have tw := ws w (by simp)
    obtain ⟨e1, E1⟩ := R (some 2) none tw
    have z0 : ∀ e : En, opC .Eq (.lst (.str v :: .str u :: r.map PV.str)) (.lst []) e = .ok (.val (.bl false)) e := fun e => c_eq_s0 (ws := v :: u :: r) (fun y hy => (ws y (List.mem_cons_of_mem _ hy)).1)
    have n1 : ¬ ((r.length : Int) + 1 + 1 = 1) := by omega
    have n2 : ¬ ((r.length : Int) + 1 + 1 + 1 = 1) := by omega
    cases hg : cutS w none (some 2) == geS with
    | false => simp [sem_stretch_in, m_stretch_in, l0, lt, hw, strsP, sl tw, c1 tw, hg, stW, st2, stO, n2]
    | true => simp [sem_stretch_in, m_stretch_in, l0, lt, hw, strsP, sl tw, c1 tw, hg, sh_release_in_0, pick, Src.get, E1, sl_tail, z0, stW, st2, stO, n1]
end PG

namespace PG
open PySem L2 QB RM
variable {fq : List Fq} {e : En}
/-! ### parts of texts of ranges -/
theorem pre_snd {a b : Nat} {S l : List Nat} (h : TL.pre (a :: b :: S) l = true) : l[1]? = some b := by
  unfold TL.pre at h
  have h := eq_of_beq h
  have g : (l.take (a :: b :: S).length)[1]? = some b := by rw [h]; rfl
  rw [List.getElem?_take] at g
  split at g
  · exact g
  · cases g
theorem pre_no {a b : Nat} {S l : List Nat} (h : l[1]? ≠ some b) : TL.pre (a :: b :: S) l = false := by
  cases z : TL.pre (a :: b :: S) l with
  | false => rfl
  | true => exact absurd (pre_snd z) h
theorem spl_join2 {a b : Nat} {S : List Nat} (hab : a ≠ b) : ∀ {parts : List (List Nat)}, parts ≠ [] → (∀ p ∈ parts, b ∉ p) → TL.spl (a :: b :: S) 0 [] (TL.joinL (a :: b :: S) parts) = parts
  | [], h, _ => absurd rfl h
  | [p], _, hp => by
    show TL.spl (a :: b :: S) 0 [] p = [p]
    rw [TL.spl_last fun i hi => pre_no fun z => hp p (List.mem_singleton.mpr rfl) ?_, List.nil_append]
    rw [List.getElem?_drop] at z
    exact List.mem_of_getElem? z
  | p :: q :: r, _, hp => by
    show TL.spl (a :: b :: S) 0 [] (p ++ (a :: b :: S ++ TL.joinL (a :: b :: S) (q :: r))) = p :: q :: r
    rw [TL.spl_part (by simp) fun i hi => pre_no fun z => ?_, List.nil_append, spl_join2 hab (by simp) fun z hz => hp z (List.mem_cons_of_mem _ hz)]
    rw [List.getElem?_drop] at z
    by_cases h : i + 1 < p.length
    · rw [List.getElem?_append_left h] at z
      exact hp p List.mem_cons_self (List.mem_of_getElem? z)
    · rw [List.getElem?_append_right (by omega), show i + 1 - p.length = 0 by omega] at z
      exact hab (by simpa using z)
theorem split_join2 {y : Str} {a b : Nat} {S : List Nat} (ey : TL.tl y = a :: b :: S) (hab : a ≠ b) (hk : y.cps.all (· < 256) = true) {parts : List Str} (hne : parts ≠ []) (hp : ∀ p ∈ parts, b ∉ TL.tl p) :
    Txt.split (Txt.join y parts) y = parts := by
  refine TL.map_tl_inj ?_
  rw [TL.split_spl _ y (by rw [ey]; simp) (TL.kind_ok hk), TL.join_eq, TL.tl_join, ey]
  refine spl_join2 hab (fun e => hne (List.map_eq_nil_iff.mp e)) fun p h => ?_
  obtain ⟨z, hz, rfl⟩ := List.mem_map.mp h
  exact hp z hz
def orS : Str := " or "
theorem or_tl : TL.tl orS = [32, 111, 114, 32] := by decide +kernel
theorem or_kind : orS.cps.all (· < 256) = true := by decide +kernel
theorem tx_free {n : Int} (h : 1000000000 ≤ n) {c : Nat} (hc : c < 46 ∨ 57 < c) : c ∉ TL.tl (tx n) := by
  unfold tx
  rw [TL.tl_append, TL.tl_append]
  intro z
  rcases List.mem_append.mp z with z | z
  · rcases List.mem_append.mp z with z | z
    · exact dot_num (by omega) (by omega) z
    · rw [show TL.tl (Str.ofString ".") = [46] by decide +kernel] at z
      simp at z
      omega
  · exact dot_num (by omega) (by omega) z
theorem cut_app {a y : Str} {n : Nat} (h : (TL.tl a).length = n) : cutS (a ++ y) none (some (n : Int)) = a ∧ cutS (a ++ y) (some (n : Int)) none = y := by
  have hl : (a ++ y).length = n + (TL.tl y).length := by rw [TL.len_tl, TL.tl_append, List.length_append, h]
  refine ⟨TL.ext_tl ?_, TL.ext_tl ?_⟩
  · show ((a ++ y).cps.toList.drop (HT.sIx (a ++ y).length 0 none)).take (HT.sIx (a ++ y).length (a ++ y).length (some (n : Int)) - HT.sIx (a ++ y).length 0 none) = TL.tl a
    rw [HT.sIx_none, HT.sIx_nat, hl, show (a ++ y).cps.toList = TL.tl a ++ TL.tl y from TL.tl_append a y, Nat.min_eq_left (by omega), List.drop_zero, Nat.sub_zero, ← h, List.take_left']
    rfl
  · show ((a ++ y).cps.toList.drop (HT.sIx (a ++ y).length 0 (some (n : Int)))).take (HT.sIx (a ++ y).length (a ++ y).length none - HT.sIx (a ++ y).length 0 (some (n : Int))) = TL.tl y
    rw [HT.sIx_none, HT.sIx_nat, hl, show (a ++ y).cps.toList = TL.tl a ++ TL.tl y from TL.tl_append a y, Nat.min_eq_left (by omega), ← h, List.drop_left, List.take_of_length_le (by omega)]
theorem ge_tl : TL.tl geS = [62, 61] := by decide +kernel
theorem lt_tl : TL.tl ltS = [60] := by decide +kernel
theorem cut_ge {y : Str} : cutS (geS ++ y) none (some 2) = geS ∧ cutS (geS ++ y) (some 2) none = y := cut_app (n := 2) (by rw [ge_tl]; rfl)
theorem cut_lt {y : Str} : cutS (ltS ++ y) none (some 1) = ltS ∧ cutS (ltS ++ y) (some 1) none = y := cut_app (n := 1) (by rw [lt_tl]; rfl)
theorem cut_lt2 {y : Str} : (cutS (ltS ++ y) none (some 2) == geS) = false := by
  refine beq_false_of_ne fun z => ?_
  have h := congrArg TL.tl z
  rw [ge_tl] at h
  have e : TL.tl (cutS (ltS ++ y) none (some 2)) = (TL.tl ltS ++ TL.tl y).take (HT.sIx (ltS ++ y).length (ltS ++ y).length (some 2)) := by
    show ((ltS ++ y).cps.toList.drop _).take _ = _
    rw [show (ltS ++ y).cps.toList = TL.tl ltS ++ TL.tl y from TL.tl_append _ y]
    rfl
  rw [e, lt_tl] at h
  generalize HT.sIx (ltS ++ y).length (ltS ++ y).length (some 2) = k at h
  cases k with
  | zero => cases h
  | succ k => injection h with h _; cases h
theorem split1 {x d : Str} {c : Nat} (hd : TL.tl d = [c]) (hk : d.cps.all (· < 256) = true) (hx : c ∉ TL.tl x) : Txt.split x d = [x] := by
  have e : x = Txt.join d [x] := by rw [TL.join_eq]; rfl
  have := TL.split_join hd hk (parts := [x]) (by simp) fun p hp => by rw [List.mem_singleton] at hp; subst hp; exact hx
  rw [← e] at this
  exact this
theorem blank_tl : TL.tl blank = [32] := by decide +kernel
theorem fr_ge {n : Int} (h : 1000000000 ≤ n) {c : Nat} (hc : c < 46 ∨ 62 < c) : c ∉ TL.tl (geS ++ tx n) := by
  rw [TL.tl_append, ge_tl]
  intro z
  rcases List.mem_append.mp z with z | z
  · simp at z; omega
  · exact tx_free h (by omega) z
theorem fr_lt {n : Int} (h : 1000000000 ≤ n) {c : Nat} (hc : c < 46 ∨ 62 < c) : c ∉ TL.tl (ltS ++ tx n) := by
  rw [TL.tl_append, lt_tl]
  intro z
  rcases List.mem_append.mp z with z | z
  · simp at z; omega
  · exact tx_free h (by omega) z
/-- the three forms -/
theorem st_ge {l : Int} (h : Tn 999 l) : stIn (geS ++ tx l) = some (l, none) := by
  unfold stIn
  rw [split1 blank_tl blank_kind (fr_ge h.1 (by omega))]
  unfold stW
  dsimp only
  rw [cut_ge.1, if_pos (beq_self_eq_true _), cut_ge.2, relO_tx h]
  rfl
theorem st_lt {k : Int} (h : Tn 999 k) (hk : 1000000000 < k) : stIn (ltS ++ tx k) = some (1000000000, some k) := by
  unfold stIn
  rw [split1 blank_tl blank_kind (fr_lt h.1 (by omega))]
  unfold stW
  dsimp only
  rw [cut_lt2]
  show st2 (some 1000000000) [ltS ++ tx k] = _
  unfold st2
  dsimp only
  rw [cut_lt.1, if_pos (beq_self_eq_true _), cut_lt.2, relO_tx h]
  dsimp only
  rw [if_pos hk]
theorem st_gl {l k : Int} (h : Tn 999 l) (g : Tn 999 k) (hk : l < k) : stIn (geS ++ tx l ++ blank ++ (ltS ++ tx k)) = some (l, some k) := by
  unfold stIn
  rw [split2 (x := geS ++ tx l) (y := ltS ++ tx k) blank_tl blank_kind (fr_ge h.1 (by omega)) (fr_lt g.1 (by omega))]
  unfold stW
  dsimp only
  rw [cut_ge.1, if_pos (beq_self_eq_true _), cut_ge.2, relO_tx h]
  show st2 (some l) [ltS ++ tx k] = _
  unfold st2
  dsimp only
  rw [cut_lt.1, if_pos (beq_self_eq_true _), cut_lt.2, relO_tx g]
  dsimp only
  rw [if_pos hk]
theorem stx_in {p : Int × Option Int} (h : TnP 999 p) : stIn (stx p) = some p := by
  obtain ⟨l, o⟩ := p
  obtain ⟨h1, h2⟩ := h
  cases o with
  | none => exact st_ge h1
  | some k =>
    obtain ⟨g, hk⟩ := h2 k rfl
    unfold stx
    dsimp only
    split
    · rename_i hl
      have hl : l = 1000000000 := hl
      subst hl
      exact st_lt g hk
    · have := st_gl h1 g hk
      have e : geS ++ tx l ++ blank ++ (ltS ++ tx k) = Str.ofString ">=" ++ tx l ++ Str.ofString " <" ++ tx k := sp_lt
      rw [← e]
      exact this
theorem stx_free {p : Int × Option Int} (h : TnP 999 p) : 111 ∉ TL.tl (stx p) := by
  obtain ⟨l, o⟩ := p
  obtain ⟨h1, h2⟩ := h
  cases o with
  | none => exact fr_ge h1.1 (by omega)
  | some k =>
    obtain ⟨g, hk⟩ := h2 k rfl
    unfold stx
    dsimp only
    split
    · exact fr_lt g.1 (by omega)
    · rw [TL.tl_append, TL.tl_append]
      intro z
      rcases List.mem_append.mp z with z | z
      · rcases List.mem_append.mp z with z | z
        · exact fr_ge h1.1 (by omega) z
        · rw [show TL.tl (Str.ofString " <") = [32, 60] by decide +kernel] at z
          simp at z
      · exact tx_free g.1 (by omega) z
end PG

namespace PG
open PySem L2 QB RM
variable {fq : List Fq} {e : En}
/-! ### ranges read -/
theorem stW_tn {ws : List Str} {p : Int × Option Int} (h : stW ws = some p) : TnP 999 p := by
  have T1 : Tn 999 1000000000 := ⟨by omega, by omega, by omega⟩
  have S2 : ∀ {lo : Option Int} {ws : List Str} {p : Int × Option Int}, (∀ n, lo = some n → Tn 999 n) → st2 lo ws = some p → TnP 999 p := fun {lo ws p} hlo h => by
    unfold st2 at h
    split at h
    · split at h
      · split at h
        · rename_i l k hk
          split at h
          · cases h
            exact ⟨hlo l rfl, fun z hz => by cases hz; exact ⟨relO_tn hk, by assumption⟩⟩
          · cases h
        · cases h
      · cases h
    · cases h
  unfold stW at h
  split at h
  · cases h
  · split at h
    · split at h
      · rename_i w _ _
        cases hr : relO (cutS w (some 2) none) with
        | none => rw [hr] at h; cases h
        | some l =>
          rw [hr] at h
          cases h
          exact ⟨relO_tn hr, fun z hz => by cases hz⟩
      · exact S2 (fun n hn => relO_tn hn) h
    · exact S2 (fun n hn => by cases hn; exact T1) h
theorem stIn_tn {x : Str} {p : Int × Option Int} (h : stIn x = some p) : TnP 999 p := stW_tn h
def allS : Str := "all"
def noneS : Str := "none"
theorem in_an {x : Str} : opC .In (.str x) (.tup [.str (Str.ofString "all"), .str (Str.ofString "none")]) e = .ok (.val (.bl (allS == x || noneS == x))) e := by
  have : inP (.str x) (.tup [.str (Str.ofString "all"), .str (Str.ofString "none")]) = some (allS == x || noneS == x) := by
    show some ((allS == x) || ((noneS == x) || false)) = _
    rw [Bool.or_false]
  show retO (inP _ _) e = _
  rw [this]
  rfl
theorem readLoop {x : PV} : ∀ (ws : List Str) (i : Nat) {s f : Sts} {x3 x4 x5 : Option Slot}, (∀ w ∈ ws, Tx 900 w) → ws.map stIn = s.map some → f.length + ws.length ≤ 10000 → pinO x3 = false → pinO x4 = false → pinO x5 = false →
    ∃ y3 y4 y5, loopM (bndTup [3, 4]) (l_Range_read_0 fq) (enumP i (ws.map PV.str)) [some (.val (.cls "Range")), some (.val x), some (.own (.lst (enS f))), x3, x4, x5] = .nx [some (.val (.cls "Range")), some (.val x), some (.own (.lst (enS (f ++ s)))), y3, y4, y5]
  | [], i, s, f, x3, x4, x5, _, hs, _, _, _, _ => by
    cases s with
    | nil => exact ⟨x3, x4, x5, by rw [List.append_nil]; rfl⟩
    | cons p s => cases hs
  | w :: ws, i, [], f, x3, x4, x5, _, hs, _, _, _, _ => by cases hs
  | w :: ws, i, p :: s, f, x3, x4, x5, ht, hs, hl, h3, h4, h5 => by
    rw [List.map_cons, List.map_cons] at hs
    injection hs with hw hs
    obtain ⟨e1, E1⟩ := stretchin_eq (fq := fq) (ht w List.mem_cons_self)
    rw [hw] at E1
    have E1 : sem_stretch_in fq [.val (.str w)] = .ret (.val (enP p)) e1 := E1
    have np : isNon (enP p) = false := rfl
    have fl : (enS f).length < 16777216 := by unfold enS; rw [List.length_map]; simp at hl; omega
    obtain ⟨y3, y4, y5, L⟩ := readLoop (x := x) ws (i + 1) (s := s) (f := f ++ [p]) (x3 := some (.val (.int i))) (x4 := some (.val (.str w))) (x5 := some (.val (enP p))) (fun v hv => ht v (List.mem_cons_of_mem _ hv)) hs (by simp at hl ⊢; omega) rfl rfl rfl
    refine ⟨y3, y4, y5, ?_⟩
    have B : l_Range_read_0 fq [some (.val (.cls "Range")), some (.val x), some (.own (.lst (enS f))), some (.val (.int i)), some (.val (.str w)), x5] = .nx [some (.val (.cls "Range")), some (.val x), some (.own (.lst (enS (f ++ [p])))), some (.val (.int i)), some (.val (.str w)), some (.val (enP p))] := by
      simp [l_Range_read_0, sh_stretch_in_0, pick, Src.get, E1, h5, np, appX_of fl]
      simp [enS]
    show loopM (bndTup [3, 4]) (l_Range_read_0 fq) (.tup [.int i, .str w] :: enumP (i + 1) (ws.map PV.str)) _ = _
    unfold loopM
    simp [h3, h4, B, L]
theorem read_eq (F : FqG fq) {x : Str} {s : Sts} (hl : x.length ≤ 100000) (h1 : (allS == x || noneS == x) = false) (hp : ∀ w ∈ Txt.split x orS, Tx 900 w) (hs : (Txt.split x orS).map stIn = s.map some) (hn : s.length ≤ 1000) :
    ∃ e, sem_Range_read fq [.val (.cls "Range"), .val (.str x)] = .ret (.own (rgO (jn "or" s []))) e := by
  have hv : OkS s := fun p hp' => by
    have : some p ∈ s.map some := List.mem_map.mpr ⟨p, hp', rfl⟩
    rw [← hs] at this
    obtain ⟨w, _, hw⟩ := List.mem_map.mp this
    have := stIn_tn hw
    exact ⟨this.1.1, fun k hk => (this.2 k hk).2⟩
  have hc : (Txt.split x orS).length = s.length := by have := congrArg List.length hs; simpa using this
  obtain ⟨y3, y4, y5, L⟩ := readLoop (fq := fq) (x := .str x) (Txt.split x orS) 0 (s := s) (f := []) (x3 := none) (x4 := none) (x5 := none) hp hs (by simp; omega) rfl rfl rfl
  have C := make2 F (Sq.lst (s := s)) hv hn (mo := slotM 0) (ms := opdsCons (opdM (getM 2)) opdsNil) (mk := opdsNil) (e := [some (.val (.cls "Range")), some (.val (.str x)), some (.own (.lst (enS s))), y3, y4, y5]) (e1 := [some (.val (.cls "Range")), some (.val (.str x)), some (.own (.lst (enS s))), y3, y4, y5]) (e2 := [some (.val (.cls "Range")), some (.val (.str x)), some (.val (.lst (enS s))), y3, y4, y5]) (e3 := [some (.val (.cls "Range")), some (.val (.str x)), some (.val (.lst (enS s))), y3, y4, y5]) (o := .slot 0) (by simp) (by simp) (by simp) rfl
  have lt : x.length + 2 ≤ sizeLine := by rw [sizeLine_eq]; omega
  have l0 : (Str.ofString " or ").length = 4 := by decide +kernel
  have eo : orS = Str.ofString " or " := rfl
  rw [eo] at L
  have L' : loopM (bndTup [3, 4]) (l_Range_read_0 fq) (enumP 0 ((Txt.split x (Str.ofString " or ")).map PV.str)) [some (.val (.cls "Range")), some (.val (.str x)), some (.own (.lst [])), none, none, none] = _ := L
  have en : ∀ xs : List PV, enm [.lst xs] = some (enumP 0 xs) := fun _ => rfl
  simp [sem_Range_read, m_Range_read, in_an, h1, l0, lt, strsP, en, L', C]
theorem read_all (F : FqG fq) : ∃ e, sem_Range_read fq [.val (.cls "Range"), .val (.str allS)] = .ret (.own (rgO wh)) e := by
  have c : ∀ e : En, cmethM [⟨"Range", E_Range_every fq⟩] "every" 1 [] (slotM 0) opdsNil opdsNil (some (.val (.cls "Range")) :: e) = .ok (.own (rgO wh)) (some (.val (.cls "Range")) :: e) := fun e => by
    obtain ⟨e1, E1⟩ := every_eq F
    have E1' : (E_Range_every fq).sem [.val (.cls "Range")] = .ret (.own (rgO wh)) e1 := E1
    have fm : findM [⟨"Range", E_Range_every fq⟩] "Range" "every" 1 [] = some (⟨"Range", E_Range_every fq⟩, ⟨1, [], [.pos 0], []⟩) := findM_one rfl rfl
    have hp : (E_Range_every fq).ps.length = 1 := rfl
    simp [cmethM, cmethK, fm, callK, hp, pick, Src.get, E1']
  have eq : ∀ e : En, opC .Eq (.str allS) (.str (Str.ofString "all")) e = .ok (.val (.bl true)) e := fun e => by
    rw [opEq_app, show Str.ofString "all" = allS from rfl, eqP_str (show PyData.strOk allS = true by decide +kernel) (by decide +kernel)]
    simp
  simp [sem_Range_read, m_Range_read, in_an, eq, c]
theorem read_none (F : FqG fq) : ∃ e, sem_Range_read fq [.val (.cls "Range"), .val (.str noneS)] = .ret (.own (rgO [])) e := by
  have c : ∀ e : En, cmethM [⟨"Range", E_Range_nothing fq⟩] "nothing" 1 [] (slotM 0) opdsNil opdsNil (some (.val (.cls "Range")) :: e) = .ok (.own (rgO [])) (some (.val (.cls "Range")) :: e) := fun e => by
    obtain ⟨e1, E1⟩ := nothing_eq F
    have E1' : (E_Range_nothing fq).sem [.val (.cls "Range")] = .ret (.own (rgO [])) e1 := E1
    have fm : findM [⟨"Range", E_Range_nothing fq⟩] "Range" "nothing" 1 [] = some (⟨"Range", E_Range_nothing fq⟩, ⟨1, [], [.pos 0], []⟩) := findM_one rfl rfl
    have hp : (E_Range_nothing fq).ps.length = 1 := rfl
    simp [cmethM, cmethK, fm, callK, hp, pick, Src.get, E1']
  have eq : ∀ e : En, opC .Eq (.str noneS) (.str (Str.ofString "all")) e = .ok (.val (.bl false)) e := fun e => by
    rw [opEq_app, show Str.ofString "all" = allS from rfl, eqP_str (show PyData.strOk noneS = true by decide +kernel) (by decide +kernel), show (noneS == allS) = false by decide +kernel]
  simp [sem_Range_read, m_Range_read, in_an, eq, c]
/-! ### a range's own text read -/
theorem join_ne {x y : Str} {p : Int × Option Int} {r : List Str} (h : TnP 999 p) (hx : ∃ c t, TL.tl x = c :: t ∧ c ≠ 60 ∧ c ≠ 62) : (x == Txt.join y (stx p :: r)) = false := by
  refine beq_false_of_ne fun z => ?_
  obtain ⟨c, t, hc, h1, h2⟩ := hx
  have z := congrArg TL.tl z
  rw [TL.join_eq, TL.tl_join, hc] at z
  have hd : ∃ d u, TL.tl (stx p) = d :: u ∧ (d = 60 ∨ d = 62) := by
    obtain ⟨l, o⟩ := p
    unfold stx
    cases o with
    | none => exact ⟨62, _, by rw [TL.tl_append, show TL.tl (Str.ofString ">=") = [62, 61] from ge_tl]; rfl, .inr rfl⟩
    | some k =>
      dsimp only
      split
      · exact ⟨60, _, by rw [TL.tl_append, show TL.tl (Str.ofString "<") = [60] from lt_tl]; rfl, .inl rfl⟩
      · exact ⟨62, _, by rw [TL.tl_append, TL.tl_append, TL.tl_append, show TL.tl (Str.ofString ">=") = [62, 61] from ge_tl]; rfl, .inr rfl⟩
  obtain ⟨d, u, hd, hu⟩ := hd
  cases r with
  | nil =>
    rw [show TL.joinL (TL.tl y) ([stx p].map TL.tl) = TL.tl (stx p) from rfl, hd] at z
    injection z with z _
    omega
  | cons q r =>
    rw [show TL.joinL (TL.tl y) ((stx p :: q :: r).map TL.tl) = TL.tl (stx p) ++ (TL.tl y ++ TL.joinL (TL.tl y) ((q :: r).map TL.tl)) from rfl, hd] at z
    injection z with z _
    omega
theorem parts_of {s : Sts} (h : TnS 999 s) (hn : s ≠ []) : Txt.split (Txt.join orS (s.map stx)) orS = s.map stx :=
  split_join2 or_tl (by decide) or_kind (fun z => hn (List.map_eq_nil_iff.mp z)) fun p hp => by
    obtain ⟨q, hq, rfl⟩ := List.mem_map.mp hp
    exact stx_free (h q hq)
theorem join_len {s : Sts} (h : TnS 999 s) : (Txt.join orS (s.map stx)).length ≤ s.length * 54 := by
  rw [TL.join_eq]
  have := (join_tx (a := orS) (by decide +kernel) (ts := s.map stx) (n := 50) (fun t ht => by
    obtain ⟨p, hp, rfl⟩ := List.mem_map.mp ht
    exact stx_ok) (fun t ht => by
    obtain ⟨p, hp, rfl⟩ := List.mem_map.mp ht
    exact stx_len (h.sm p hp))).2
  rw [List.length_map, show orS.length = 4 by decide +kernel] at this
  exact this
theorem join_ok {s : Sts} : PyData.strOk (Txt.join orS (s.map stx)) = true := by
  rw [TL.join_eq]
  have : ∀ ts : List Str, (∀ t ∈ ts, PyData.strOk t = true) → PyData.strOk (Str.join orS ts) = true := fun ts h => by
    induction ts with
    | nil => decide +kernel
    | cons t ts ih =>
      cases ts with
      | nil => exact h t List.mem_cons_self
      | cons u r => exact strOk_app (strOk_app (h t List.mem_cons_self) (by decide +kernel)) (ih fun v hv => h v (List.mem_cons_of_mem _ hv))
  exact this _ fun t ht => by
    obtain ⟨p, hp, rfl⟩ := List.mem_map.mp ht
    exact stx_ok
/-- the text of stretches in any order read -/
theorem read_join (F : FqG fq) {s : Sts} (h : TnS 999 s) (hn : s ≠ []) (hl : s.length ≤ 400) : ∃ e, sem_Range_read fq [.val (.cls "Range"), .val (.str (Txt.join orS (s.map stx)))] = .ret (.own (rgO (jn "or" s []))) e := by
  refine read_eq F (by have := join_len h; omega) ?_ ?_ ?_ (by omega)
  · cases s with
    | nil => exact absurd rfl hn
    | cons p s =>
      rw [List.map_cons, join_ne (h p List.mem_cons_self) ⟨97, _, (by decide +kernel : TL.tl allS = 97 :: [108, 108]), by decide, by decide⟩, join_ne (h p List.mem_cons_self) ⟨110, _, (by decide +kernel : TL.tl noneS = 110 :: [111, 110, 101]), by decide, by decide⟩]
      rfl
  · rw [parts_of h hn]
    intro w hw
    obtain ⟨p, hp, rfl⟩ := List.mem_map.mp hw
    exact ⟨stx_ok, by have := stx_len (h.sm p hp); omega⟩
  · rw [parts_of h hn, List.map_map]
    refine List.map_congr_left fun p hp => ?_
    exact stx_in (h p hp)
theorem read_rtx (F : FqG fq) {s : Sts} (h : TnS 999 s) (hr : Rg s) (hl : s.length ≤ 400) : ∃ e, sem_Range_read fq [.val (.cls "Range"), .val (.str (rtx s))] = .ret (.own (rgO s)) e := by
  unfold rtx
  split
  · rename_i hs
    subst hs
    exact read_none F
  · split
    · rename_i hs
      subst hs
      exact read_all F
    · rename_i hs _
      have := read_join F h hs hl
      rw [rg_id hr] at this
      exact this
theorem rtx_ok {s : Sts} : PyData.strOk (rtx s) = true := by
  unfold rtx
  split
  · exact strOk_of _
  · split
    · exact strOk_of _
    · exact join_ok
theorem read_cm (F : FqG fq) {x : Str} {s : Sts} {ms : EM (List Opd)} (hm : ms e = .ok [.pv (.str x)] e) (h : ∃ e, sem_Range_read fq [.val (.cls "Range"), .val (.str x)] = .ret (.own (rgO s)) e) : cmethM [⟨"Range", E_Range_read fq⟩] "read" 2 [] (opdM (EM.ret (.val (.cls "Range")))) ms opdsNil e = .ok (.own (rgO s)) e := by
  obtain ⟨e1, E1⟩ := h
  exact cm1 hm (findM_one rfl rfl) rfl rfl E1
end PG

namespace PG
open PySem L2 QB RM
variable {fq : List Fq} {tbl : List MethE} {e e1 e2 : En}
theorem pv_rgO {s : Sts} : (rgO s).pv = rg s := rfl
/-! ### operands that are handed on while they are read -/
theorem dun2g {E : FnE} {dn : Str} {sh : Shape} {a b : Opd} {s t : Sts} {r : RV} {e' : En} (fa : frzO a e = .ok (.pv (rg s)) e1) (fb : frzO b e1 = .ok (.pv (rg t)) e2) (h : findM [⟨"Range", E⟩] "Range" dn 2 [] = some (⟨"Range", E⟩, sh)) (hs : sh = ⟨2, [], [.pos 0, .pos 1], []⟩) (hp : E.ps.length = 2) (hE : E.sem [.val (rg s), .val (rg t)] = .ret r e') : dunK [⟨"Range", E⟩] dn [a, b] "Range" e = .ok r e2 := by
  subst hs
  rw [dunK_one (os := [a, b]) h]
  simp only [frzs_cons, fa, fb, frzs_nil]
  simp [callK, hp, pick, Src.get, hE]
/-- two operands, ranges, and what is left of the names -/
structure At2 (e : En) (a b : Opd) (s t : Sts) (e' : En) : Prop where
  la : a.look e = some (rg s)
  lb : b.look e = some (rg t)
  fz : ∃ e1, frzO a e = .ok (.pv (rg s)) e1 ∧ frzO b e1 = .ok (.pv (rg t)) e'
theorem opX_subG (F : FqG fq) {a b : Opd} {s t : Sts} (A : At2 e a b s t e2) (hs : Rg s) (ht : Rg t) (hl : s.length ≤ 400) (hl' : t.length ≤ 400) : opX fq [⟨"Range", E_Range___sub__ fq⟩] .Sub a b e = .ok (.own (rgO (jn "less" s t))) e2 := by
  obtain ⟨e1, f1, f2⟩ := A.fz
  obtain ⟨e3, E3⟩ := sub_eq F hs ht hl hl'
  rw [opX_ins A.la A.lb F.dun]
  exact dun2g (E := E_Range___sub__ fq) f1 f2 (findM_one (by show ("__sub__" : Str) = _; decide +kernel) rfl) rfl rfl E3
theorem ipX_ins {op : Operator} {a b : Opd} {s t : Sts} (F : FqG fq) (hn : ipN op = true) (ha : a.look e = some (rg s)) (hb : b.look e = some (rg t)) : ipX fq tbl op a b e = dunK tbl (PySem.dunder op.info.2) [a, b] "Range" e := by
  unfold ipX EM.bind
  simp only [lookM_app, ha, hb]
  show (if decide (("Range" : Str) = "Range") && (dunT fq "Range" && ipN op) then dunK tbl (PySem.dunder op.info.2) [a, b] "Range" else EM.bad) e = _
  rw [F.dun, hn]
  simp
theorem ipX_orG (F : FqG fq) {a b : Opd} {s t : Sts} (A : At2 e a b s t e2) (hs : Rg s) (ht : Rg t) (hl : s.length ≤ 400) (hl' : t.length ≤ 400) : ipX fq [⟨"Range", E_Range___or__ fq⟩] .BitOr a b e = .ok (.own (rgO (jn "or" s t))) e2 := by
  obtain ⟨e1, f1, f2⟩ := A.fz
  obtain ⟨e3, E3⟩ := or_eq F hs ht hl hl'
  rw [ipX_ins F rfl A.la A.lb]
  exact dun2g (E := E_Range___or__ fq) f1 f2 (findM_one (by show ("__or__" : Str) = _; decide +kernel) rfl) rfl rfl E3
theorem ipX_andG (F : FqG fq) {a b : Opd} {s t : Sts} (A : At2 e a b s t e2) (hs : Rg s) (ht : Rg t) (hl : s.length ≤ 400) (hl' : t.length ≤ 400) : ipX fq [⟨"Range", E_Range___and__ fq⟩] .BitAnd a b e = .ok (.own (rgO (jn "and" s t))) e2 := by
  obtain ⟨e1, f1, f2⟩ := A.fz
  obtain ⟨e3, E3⟩ := and_eq F hs ht hl hl'
  rw [ipX_ins F rfl A.la A.lb]
  exact dun2g (E := E_Range___and__ fq) f1 f2 (findM_one (by show ("__and__" : Str) = _; decide +kernel) rfl) rfl rfl E3
theorem ipX_subG (F : FqG fq) {a b : Opd} {s t : Sts} (A : At2 e a b s t e2) (hs : Rg s) (ht : Rg t) (hl : s.length ≤ 400) (hl' : t.length ≤ 400) : ipX fq [⟨"Range", E_Range___sub__ fq⟩] .Sub a b e = .ok (.own (rgO (jn "less" s t))) e2 := by
  obtain ⟨e1, f1, f2⟩ := A.fz
  obtain ⟨e3, E3⟩ := sub_eq F hs ht hl hl'
  rw [ipX_ins F rfl A.la A.lb]
  exact dun2g (E := E_Range___sub__ fq) f1 f2 (findM_one (by show ("__sub__" : Str) = _; decide +kernel) rfl) rfl rfl E3
theorem ipX_xorG (F : FqG fq) {a b : Opd} {s t : Sts} (A : At2 e a b s t e2) (hs : Rg s) (ht : Rg t) (hl : s.length ≤ 400) (hl' : t.length ≤ 400) : ipX fq [⟨"Range", E_Range___xor__ fq⟩] .BitXor a b e = .ok (.own (rgO (jn "unlike" s t))) e2 := by
  obtain ⟨e1, f1, f2⟩ := A.fz
  obtain ⟨e3, E3⟩ := xor_eq F hs ht hl hl'
  rw [ipX_ins F rfl A.la A.lb]
  exact dun2g (E := E_Range___xor__ fq) f1 f2 (findM_one (by show ("__xor__" : Str) = _; decide +kernel) rfl) rfl rfl E3
theorem cmpX_neG (F : FqC fq) {a b : Opd} {s t : Sts} (A : At2 e a b s t e2) : cmpX fq [⟨"Range", E_Range___eq__ fq⟩] .NotEq a b e = .ok (.val (.bl (!decide (s = t)))) e2 := by
  obtain ⟨e1, f1, f2⟩ := A.fz
  obtain ⟨e3, E3⟩ := eq_eq F.g (s := s) (t := t)
  have d := dun2g (E := E_Range___eq__ fq) (dn := "__eq__") f1 f2 (findM_one rfl rfl) rfl rfl E3
  have np : nfP fq "Range" (rg t) = true := F.nf
  unfold cmpX EM.bind
  simp only [lookM_app, A.la, A.lb]
  show (if dunT fq "Range" && nfP fq "Range" (rg t) then boolR (dunK [⟨"Range", E_Range___eq__ fq⟩] "__eq__" [a, b] "Range") fun k => retB (!k) else EM.bad) e = _
  rw [F.dun, np]
  show (boolR (dunK [⟨"Range", E_Range___eq__ fq⟩] "__eq__" [a, b] "Range") fun k => retB (!k)) e = _
  unfold boolR EM.bind
  simp only [d]
  rfl
/-! ### reprs of stretches -/
theorem rp_dE {n : Int} (h : Sm n) : Rp 43 (dE n) := (RpA.cons (Rp.int (i := n / 1000000000) (by have := h.1; omega) (by have := h.2; omega)) (by show 0 ≤ 19; decide) (RpA.cons (Rp.int (i := n % 1000000000) (by omega) (by omega)) (by show 0 ≤ 19; decide) RpA.nil)).tup
theorem rp_dO {o : Option Int} (h : ∀ k, o = some k → Sm k) : Rp 43 (dO o) := by
  cases o with
  | none => exact Rp.non.mono (by omega)
  | some k => exact rp_dE (h k rfl)
theorem dep_dE {n : Int} : (dE n).depth ≤ 1 := by show max 0 (max 0 0) + 1 ≤ 1; decide
theorem dep_dO {o : Option Int} : (dO o).depth ≤ 1 := by
  cases o with
  | none => show 0 ≤ 1; decide
  | some k => exact dep_dE
theorem rp_dP {p : Int × Option Int} (h : SmP p) : Rp 93 (dP p) := (RpA.cons (rp_dE h.1) (by have := dep_dE (n := p.1); omega) (RpA.cons (rp_dO h.2) (by have := dep_dO (o := p.2); omega) RpA.nil)).tup
theorem rp_dS : ∀ {s : Sts}, SmS s → RpA 93 (s.map dP)
  | [], _ => RpA.nil
  | p :: s, h => RpA.cons (rp_dP (h p List.mem_cons_self)) (by have := (lay_dP (p := p)).2; omega) (rp_dS fun q hq => h q (List.mem_cons_of_mem _ hq))
theorem repr_st {s : Sts} (h : SmS s) (hl : s.length ≤ 1000) : ∃ z, PyData.strOk z = true ∧ ∀ e : En, bRepr [.tup (enS s)] e = .ok (.val (.str z)) e := by
  have rp1 := (rp_dS h).tup
  rw [List.length_map] at rp1
  exact ⟨_, Rp.at rp1 (p := .tup (enS s)) (by unfold PV.data; rw [datas_enS]; rfl) (by omega)⟩
/-! ### lists of releases -/
theorem datas_enc : ∀ {l : List Int}, datas (l.map enc) = some (l.map dE)
  | [] => rfl
  | n :: l => by
    show (match (enc n).data, datas (l.map enc) with
      | some d, some ds => some (d :: ds)
      | _, _ => none) = _
    rw [datas_enc]
    rfl
theorem lay_enc : ∀ {l : List Int}, PyData.canLayAll0 (l.map dE) = true ∧ PyData.depthAll (l.map dE) ≤ 2
  | [] => ⟨rfl, by show 0 ≤ 2; decide⟩
  | n :: l => by
    obtain ⟨h1, h2⟩ := lay_enc (l := l)
    refine ⟨?_, ?_⟩
    · show (PyData.canLay0 (dE n) && PyData.canLayAll0 (l.map dE)) = true
      rw [h1]
      rfl
    · show max (PyData.depth (dE n)) (PyData.depthAll (l.map dE)) ≤ 2
      have := dep_dE (n := n)
      omega
theorem eqvAll_enc : ∀ {l m : List Int}, PyData.eqvAll (l.map dE) (m.map dE) = decide (l = m)
  | [], [] => rfl
  | [], _ :: _ => rfl
  | _ :: _, [] => rfl
  | p :: s, q :: t => by
    show (PyData.eqv (dE p) (dE q) && PyData.eqvAll (s.map dE) (t.map dE)) = _
    rw [eqv_dE, eqvAll_enc, Bool.eq_iff_iff]
    simp
theorem eqP_encs {l m : List Int} : eqP (.lst (l.map enc)) (.lst (m.map enc)) = some (decide (l = m)) := by
  have sh : ∀ l : List Int, shp (.list (l.map dE)) = true := fun l => by
    obtain ⟨h1, h2⟩ := lay_enc (l := l)
    show (PyData.canLayAll0 (l.map dE) && decide (PyData.depthAll (l.map dE) + 1 ≤ 64)) = true
    rw [h1, decide_eq_true (by omega)]
    rfl
  unfold eqP PV.data
  rw [datas_enc, datas_enc]
  show (if shp (.list (l.map dE)) && shp (.list (m.map dE)) then some (PyData.eqvAll (l.map dE) (m.map dE)) else none) = _
  rw [sh, sh, eqvAll_enc]
  rfl
end PG

namespace PG
open PySem L2 QB
def sh__law_leaf_0 : Shape := ⟨1, [], [.pos 0], []⟩
def m__law_leaf (fq : List Fq) : SM := (seqM (asg2M 2 3 (valsCons (tupM (valsCons (two (opdM (EM.ret (.val (.int 1)))) (opdM (callM sem__law_take 2 sh__law_take_0 (opdsCons (slotM 0) (opdsCons (opdM (EM.ret (.val (.int 3)))) opdsNil)) opdsNil)) (opB .Add)) (valsCons (callM sem__law_take 2 sh__law_take_0 (opdsCons (slotM 0) (opdsCons (opdM (EM.ret (.val (.int 4)))) opdsNil)) opdsNil) valsNil))) (valsCons (callM sem__law_take 2 sh__law_take_0 (opdsCons (slotM 0) (opdsCons (opdM (EM.ret (.val (.int 6)))) opdsNil)) opdsNil) valsNil))) (seqM (asgM 1 (lstM (valsCons (cmethM [⟨"Range", (E_Range_every fq)⟩] "every" 1 [] (opdM (EM.ret (.val (.cls "Range")))) opdsNil opdsNil) (valsCons (cmethM [⟨"Range", (E_Range_nothing fq)⟩] "nothing" 1 [] (opdM (EM.ret (.val (.cls "Range")))) opdsNil opdsNil) (valsCons (cmethM [⟨"Range", (E_Range_only fq)⟩] "only" 2 [] (opdM (EM.ret (.val (.cls "Range")))) (opdsCons (opdM (getM 2)) opdsNil) opdsNil) (valsCons (cmethM [⟨"Range", (E_Range_series fq)⟩] "series" 2 [] (opdM (EM.ret (.val (.cls "Range")))) (opdsCons (opdM (ixM (slotM 2) (opdM (EM.ret (.val (.int 0)))))) opdsNil) opdsNil) valsNil)))))) (seqM (asgM 1 (ixM (opdM (two (slotM 1) (opdM (lstM (valsCons (cmethM [⟨"Range", (E_Range_from_on fq)⟩] "from_on" 2 [] (opdM (EM.ret (.val (.cls "Range")))) (opdsCons (opdM (getM 2)) opdsNil) opdsNil) (valsCons (cmethM [⟨"Range", (E_Range_before fq)⟩] "before" 2 [] (opdM (EM.ret (.val (.cls "Range")))) (opdsCons (opdM (getM 2)) opdsNil) opdsNil) valsNil)))) (opB .Add))) (slotM 3))) (retM (tupM (valsCons (getM 1) (valsCons (tupM (valsCons (ixM (opdM (lstM (valsCons (EM.ret (.val (.str "all"))) (valsCons (EM.ret (.val (.str "none"))) (valsCons (EM.ret (.val (.str "only"))) (valsCons (EM.ret (.val (.str "series"))) (valsCons (EM.ret (.val (.str "from"))) (valsCons (EM.ret (.val (.str "before"))) valsNil)))))))) (slotM 3)) (valsCons (getM 2) valsNil))) valsNil)))))))
def sem__law_leaf (fq : List Fq) : FSem := bodyF 4 (m__law_leaf fq)
def E__law_leaf (fq : List Fq) : FnE := ⟨"_law_leaf", ["_law_box_here"], [true], sem__law_leaf fq, [sh__law_leaf_0]⟩
def sh__law_tree_0 : Shape := ⟨2, [], [.pos 0, .pos 1], []⟩
def m__law_tree (fq : List Fq) (F : FSem) : SM := (seqM (asgM 2 (callM sem__law_take 2 sh__law_take_0 (opdsCons (slotM 0) (opdsCons (opdM (EM.ret (.val (.int 7)))) opdsNil)) opdsNil)) (seqM (thenS (orT (boolM (twoO (slotM 1) (opdM (EM.ret (.val (.int 0)))) (cmpX fq [⟨"Range", (E_Range___eq__ fq)⟩] .Eq))) (boolM (twoO (slotM 2) (opdM (EM.ret (.val (.int 5)))) (cmpX fq [⟨"Range", (E_Range___gt__ fq)⟩] .Gt)))) fun k => if k then (retM (callM (sem__law_leaf fq) 1 sh__law_leaf_0 (opdsCons (slotM 0) opdsNil) opdsNil)) else skipM) (seqM (unpM (bndTup [3, 4]) (callM F 2 sh__law_tree_0 (opdsCons (slotM 0) (opdsCons (opdM (twoO (slotM 1) (opdM (EM.ret (.val (.int 1)))) (opX fq [⟨"Range", (E_Range___sub__ fq)⟩] .Sub))) opdsNil)) opdsNil)) (seqM (thenS (boolM (twoO (slotM 2) (opdM (EM.ret (.val (.int 5)))) (cmpX fq [⟨"Range", (E_Range___eq__ fq)⟩] .Eq))) fun k => if k then (retM (tupM (valsCons ((slotM 3).bind (invX [⟨"Range", (E_Range___invert__ fq)⟩])) (valsCons (tupM (valsCons (EM.ret (.val (.str "not"))) (valsCons (getM 4) valsNil))) valsNil)))) else skipM) (seqM (unpM (bndTup [5, 6]) (callM F 2 sh__law_tree_0 (opdsCons (slotM 0) (opdsCons (opdM (twoO (slotM 1) (opdM (EM.ret (.val (.int 1)))) (opX fq [⟨"Range", (E_Range___sub__ fq)⟩] .Sub))) opdsNil)) opdsNil)) (seqM (thenS (boolM (twoO (slotM 2) (opdM (EM.ret (.val (.int 2)))) (cmpX fq [⟨"Range", (E_Range___lt__ fq)⟩] .Lt))) fun k => if k then (retM (ixM (opdM (lstM (valsCons (tupM (valsCons (twoO (slotM 3) (slotM 5) (opX fq [⟨"Range", (E_Range___and__ fq)⟩] .BitAnd)) (valsCons (tupM (valsCons (EM.ret (.val (.str "and"))) (valsCons (getM 4) (valsCons (getM 6) valsNil)))) valsNil))) (valsCons (tupM (valsCons (twoO (slotM 3) (slotM 5) (opX fq [⟨"Range", (E_Range___or__ fq)⟩] .BitOr)) (valsCons (tupM (valsCons (EM.ret (.val (.str "or"))) (valsCons (getM 4) (valsCons (getM 6) valsNil)))) valsNil))) valsNil)))) (slotM 2))) else skipM) (retM (ixM (opdM (lstM (valsCons (tupM (valsCons (twoO (slotM 3) (slotM 5) (opX fq [⟨"Range", (E_Range___sub__ fq)⟩] .Sub)) (valsCons (tupM (valsCons (EM.ret (.val (.str "less"))) (valsCons (getM 4) (valsCons (getM 6) valsNil)))) valsNil))) (valsCons (tupM (valsCons (twoO (slotM 3) (slotM 5) (opX fq [⟨"Range", (E_Range___xor__ fq)⟩] .BitXor)) (valsCons (tupM (valsCons (EM.ret (.val (.str "unlike"))) (valsCons (getM 4) (valsCons (getM 6) valsNil)))) valsNil))) valsNil)))) (opdM (two (opdM (bltM (opdsCons (slotM 2) opdsNil) bInt')) (opdM (EM.ret (.val (.int 2)))) (opB .Mod)))))))))))
def sem__law_tree (fq : List Fq) : Nat → FSem
  | 0 => badF
  | n + 1 => bodyF 7 (m__law_tree fq (sem__law_tree fq n))
def E__law_tree (fq : List Fq) (F : FSem) : FnE := ⟨"_law_tree", ["_law_box_here", "_law_deep"], [true], F, [sh__law_tree_0]⟩
def sh__law_is_in_0 : Shape := ⟨2, [], [.pos 0, .pos 1], []⟩
def m__law_is_in (F : FSem) : SM := (seqM (asgM 2 (ixM (slotM 0) (opdM (EM.ret (.val (.int 0)))))) (seqM (thenS (boolM (two (slotM 2) (opdM (tupM (valsCons (EM.ret (.val (.str "all"))) (valsCons (EM.ret (.val (.str "none"))) valsNil)))) (opC .In))) fun k => if k then (retM (two (slotM 2) (opdM (EM.ret (.val (.str "all")))) (opC .Eq))) else skipM) (seqM (thenS (boolM (two (slotM 2) (opdM (tupM (valsCons (EM.ret (.val (.str "only"))) (valsCons (EM.ret (.val (.str "series"))) valsNil)))) (opC .In))) fun k => if k then (retM (iteM (boolM (two (slotM 2) (opdM (EM.ret (.val (.str "only")))) (opC .Eq))) (two (slotM 1) (opdM (ixM (slotM 0) (opdM (EM.ret (.val (.int 1)))))) (opC .Eq)) (two (opdM (ixM (slotM 1) (opdM (EM.ret (.val (.int 0)))))) (opdM (ixM (opdM (ixM (slotM 0) (opdM (EM.ret (.val (.int 1)))))) (opdM (EM.ret (.val (.int 0)))))) (opC .Eq)))) else skipM) (seqM (thenS (boolM (two (slotM 2) (opdM (tupM (valsCons (EM.ret (.val (.str "from"))) (valsCons (EM.ret (.val (.str "before"))) valsNil)))) (opC .In))) fun k => if k then (retM (two (opdM (two (slotM 1) (opdM (ixM (slotM 0) (opdM (EM.ret (.val (.int 1)))))) (opC .Lt))) (opdM (two (slotM 2) (opdM (EM.ret (.val (.str "before")))) (opC .Eq))) (opC .Eq))) else skipM) (seqM (asgM 3 (callM F 2 sh__law_is_in_0 (opdsCons (opdM (ixM (slotM 0) (opdM (EM.ret (.val (.int 1)))))) (opdsCons (opdM (getM 1)) opdsNil)) opdsNil)) (seqM (thenS (boolM (two (slotM 2) (opdM (EM.ret (.val (.str "not")))) (opC .Eq))) fun k => if k then (retM (notV (slotM 3))) else skipM) (seqM (asgM 4 (callM F 2 sh__law_is_in_0 (opdsCons (opdM (ixM (slotM 0) (opdM (EM.ret (.val (.int 2)))))) (opdsCons (opdM (getM 1)) opdsNil)) opdsNil)) (retM (dg2M (opdM (dsM ["and", "or", "less"] (valsCons (andV (getM 3) (getM 4)) (valsCons (orV (getM 3) (getM 4)) (valsCons (andV (getM 3) (notV (slotM 4))) valsNil))))) (slotM 2) (two (slotM 3) (slotM 4) (opC .NotEq)))))))))))
def sem__law_is_in : Nat → FSem
  | 0 => badF
  | n + 1 => bodyF 5 (m__law_is_in (sem__law_is_in n))
def E__law_is_in (F : FSem) : FnE := ⟨"_law_is_in", ["_law_tree_here", "_law_release"], [], F, [sh__law_is_in_0]⟩
def e_law_k12_0 (fq : List Fq) : EM RV := (tupM (valsCons (getM 4) (valsCons (getM 13) valsNil)))
def l_law_k12_1 (fq : List Fq) : SM := (exprM (extM 3 (opdM (lcM (itA rng1 (opdsCons (opdM (EM.ret (.val (.int 7)))) opdsNil)) (bndNm 13) (EM.ret true) [13] (eltM (e_law_k12_0 fq))))))
def e_law_k12_2 (fq : List Fq) : EM RV := (getM 12)
def e_law_k12_3 (fq : List Fq) : EM RV := (getM 12)
def l_law_k12_4 (fq : List Fq) : SM := (seqM (asgM 11 (cmethM [⟨"Range", (E_Range_from_on fq)⟩] "from_on" 2 [] (opdM (EM.ret (.val (.cls "Range")))) (opdsCons (opdM (getM 9)) opdsNil) opdsNil)) (asgM 6 (twoO (slotM 6) (opdM (iteM (boolM (two (slotM 10) (opdM (EM.ret (.val .non))) (opC .Is))) (getM 11) (twoO (slotM 11) (opdM (cmethM [⟨"Range", (E_Range_from_on fq)⟩] "from_on" 2 [] (opdM (EM.ret (.val (.cls "Range")))) (opdsCons (opdM (getM 10)) opdsNil) opdsNil)) (opX fq [⟨"Range", (E_Range___sub__ fq)⟩] .Sub)))) (ipX fq [⟨"Range", (E_Range___or__ fq)⟩] .BitOr))))
def l_law_k12_5 (fq : List Fq) : SM := (seqM (asgM 2 (callM sem__law_box 2 sh__law_box_0 (opdsCons (opdM (getM 0)) (opdsCons (opdM (getM 1)) opdsNil)) opdsNil)) (seqM (unpM (bndTup [7, 8]) (callM (sem__law_tree fq 5) 2 sh__law_tree_0 (opdsCons (slotM 2) (opdsCons (opdM (two (opdM (EM.ret (.val (.int 2)))) (opdM (callM sem__law_take 2 sh__law_take_0 (opdsCons (slotM 2) (opdsCons (opdM (EM.ret (.val (.int 3)))) opdsNil)) opdsNil)) (opB .Add))) opdsNil)) opdsNil)) (seqM (asgM 3 (lstM valsNil)) (seqM (forI (bndNm 4) (itA rng2 (opdsCons (opdM (EM.ret (.val (.int 1)))) (opdsCons (opdM (EM.ret (.val (.int 6)))) opdsNil))) (l_law_k12_1 fq)) (seqM (asgM 5 (lcM (itV (getM 3)) (bndNm 12) (boolM (twoO (slotM 12) (slotM 7) (cmpX fq [⟨"Range", (E_Range___contains__ fq)⟩] .In))) [12] (eltM (e_law_k12_2 fq)))) (seqM (thenS (boolM (twoO (slotM 5) (opdM (lcM (itV (getM 3)) (bndNm 12) (truM (opdM (callM (sem__law_is_in 6) 2 sh__law_is_in_0 (opdsCons (opdM (getM 8)) (opdsCons (opdM (getM 12)) opdsNil)) opdsNil))) [12] (eltM (e_law_k12_3 fq)))) (cmpX fq [⟨"Range", (E_Range___eq__ fq)⟩] .NotEq))) fun k => if k then (retM (EM.ret (.val (.bl false)))) else skipM) (seqM (thenS (boolM (twoO (opdM (attrM fq [⟨"Range", (E_Range_least fq)⟩] "least" (slotM 7))) (opdM (iteM (boolM (twoO (slotM 5) (opdM (lstM valsNil)) (cmpX fq [⟨"Range", (E_Range___eq__ fq)⟩] .NotEq))) (ixM (slotM 5) (opdM (EM.ret (.val (.int 0))))) (EM.ret (.val .non)))) (cmpX fq [⟨"Range", (E_Range___eq__ fq)⟩] .NotEq))) fun k => if k then (retM (EM.ret (.val (.bl false)))) else skipM) (seqM (asgM 6 (cmethM [⟨"Range", (E_Range_nothing fq)⟩] "nothing" 1 [] (opdM (EM.ret (.val (.cls "Range")))) opdsNil opdsNil)) (seqM (forI (bndTup [9, 10]) (itV (attrM fq [] "stretches" (slotM 7))) (l_law_k12_4 fq)) (thenS (orT (boolM (twoO (slotM 6) (slotM 7) (cmpX fq [⟨"Range", (E_Range___eq__ fq)⟩] .NotEq))) (boolM (twoO (opdM (bltM (opdsCons (opdM (attrM fq [] "stretches" (slotM 6))) opdsNil) bRepr)) (opdM (bltM (opdsCons (opdM (attrM fq [] "stretches" (slotM 7))) opdsNil) bRepr)) (cmpX fq [⟨"Range", (E_Range___eq__ fq)⟩] .NotEq)))) fun k => if k then (retM (EM.ret (.val (.bl false)))) else skipM))))))))))
def m_law_k12 (fq : List Fq) : SM := (seqM (forI (bndNm 1) (itA rng1 (opdsCons (opdM (bltM (opdsCons (opdM (EM.ret (.val (.int 2)))) (opdsCons (opdM (bltM (opdsCons (opdM (EM.ret (.val (.int 4)))) (opdsCons (opdM (bltO (opdsCons (slotM 0) opdsNil) (lenX [⟨"Range", (E_Range___len__ fq)⟩]))) opdsNil)) bMin)) opdsNil)) bMax)) opdsNil)) (l_law_k12_5 fq)) (retM (EM.ret (.val (.bl true)))))
def sem_law_k12 (fq : List Fq) : FSem := bodyF 14 (m_law_k12 fq)
def E_law_k12 (fq : List Fq) : FnE := ⟨"law", ["_law_script"], [], sem_law_k12 fq, []⟩
end PG

namespace PG
open PySem L2 QB RM
variable {fq : List Fq}
abbrev FqR := FqC
/-! ### trees of signs -/
inductive Tr where
  | leaf (f : Nat) (n : Int)
  | inv (t : Tr)
  | bin (k : Nat) (t u : Tr)
def lword : Nat → Str
  | 0 => "all"
  | 1 => "none"
  | 2 => "only"
  | 3 => "series"
  | 4 => "from"
  | _ => "before"
def bword : Nat → Str
  | 0 => "and"
  | 1 => "or"
  | 2 => "less"
  | _ => "unlike"
def enT : Tr → PV
  | .leaf f n => .tup [.str (lword f), enc n]
  | .inv t => .tup [.str "not", enT t]
  | .bin k t u => .tup [.str (bword k), enT t, enT u]
def lset : Nat → Int → Int → Bool
  | 0, _, _ => true
  | 1, _, _ => false
  | 2, n, x => decide (x = n)
  | 3, n, x => x / 1000000000 == n / 1000000000
  | 4, n, x => !decide (x < n)
  | _, n, x => decide (x < n)
def bset : Nat → Bool → Bool → Bool
  | 0, a, b => a && b
  | 1, a, b => a || b
  | 2, a, b => a && !b
  | _, a, b => a != b
def tset : Tr → Int → Bool
  | .leaf f n, x => lset f n x
  | .inv t, x => !tset t x
  | .bin k t u, x => bset k (tset t x) (tset u x)
def dep : Tr → Nat
  | .leaf _ _ => 0
  | .inv t => dep t + 1
  | .bin _ t u => max (dep t) (dep u) + 1
/-! ### is_in -/
theorem in_2 {x a b : Str} {e : En} : opC .In (.str x) (.tup [.str a, .str b]) e = .ok (.val (.bl (a == x || b == x))) e := by
  have : inP (.str x) (.tup [.str a, .str b]) = some (a == x || b == x) := by
    show some ((a == x) || ((b == x) || false)) = _
    rw [Bool.or_false]
  show retO (inP _ _) e = _
  rw [this]
  rfl
theorem eq_ss {a b : String} {e : En} : opC .Eq (.str (Str.ofString a)) (.str (Str.ofString b)) e = .ok (.val (.bl (Str.ofString a == Str.ofString b))) e := by
  rw [opEq_app, eqP_str (strOk_of _) (strOk_of _)]
theorem isin_eq : ∀ (t : Tr) (m : Nat) {x : Int}, dep t < m → 1000000000 ≤ x → ∃ e, sem__law_is_in m [.val (enT t), .val (enc x)] = .ret (.val (.bl (tset t x))) e
  | t, 0, x, h, _ => by omega
  | .leaf f n, m + 1, x, _, hx => by
    have q1 : (Str.ofString "all" == Str.ofString "all") = true := by decide +kernel
    match f with
    | 0 =>
      have i1 : (Str.ofString "all" == lword 0 || Str.ofString "none" == lword 0) = true := by decide +kernel
      have i2 : ∀ e : En, opC .Eq (.str (lword 0)) (.str (Str.ofString "all")) e = .ok (.val (.bl true)) e := fun e => by rw [show lword 0 = Str.ofString "all" from rfl, eq_ss, q1]
      simp [sem__law_is_in, m__law_is_in, enT, in_2, i1, i2, tset, lset]
    | 1 =>
      have i1 : (Str.ofString "all" == lword 1 || Str.ofString "none" == lword 1) = true := by decide +kernel
      have q2 : (Str.ofString "none" == Str.ofString "all") = false := by decide +kernel
      have i2 : ∀ e : En, opC .Eq (.str (lword 1)) (.str (Str.ofString "all")) e = .ok (.val (.bl false)) e := fun e => by rw [show lword 1 = Str.ofString "none" from rfl, eq_ss, q2]
      simp [sem__law_is_in, m__law_is_in, enT, in_2, i1, i2, tset, lset]
    | 2 =>
      have i1 : (Str.ofString "all" == lword 2 || Str.ofString "none" == lword 2) = false := by decide +kernel
      have i3 : (Str.ofString "only" == lword 2 || Str.ofString "series" == lword 2) = true := by decide +kernel
      have q2 : (Str.ofString "only" == Str.ofString "only") = true := by decide +kernel
      have i2 : ∀ e : En, opC .Eq (.str (lword 2)) (.str (Str.ofString "only")) e = .ok (.val (.bl true)) e := fun e => by rw [show lword 2 = Str.ofString "only" from rfl, eq_ss, q2]
      simp [sem__law_is_in, m__law_is_in, enT, in_2, i1, i2, i3, tset, lset]
    | 3 =>
      have i1 : (Str.ofString "all" == lword 3 || Str.ofString "none" == lword 3) = false := by decide +kernel
      have i3 : (Str.ofString "only" == lword 3 || Str.ofString "series" == lword 3) = true := by decide +kernel
      have q2 : (Str.ofString "series" == Str.ofString "only") = false := by decide +kernel
      have i2 : ∀ e : En, opC .Eq (.str (lword 3)) (.str (Str.ofString "only")) e = .ok (.val (.bl false)) e := fun e => by rw [show lword 3 = Str.ofString "series" from rfl, eq_ss, q2]
      simp [sem__law_is_in, m__law_is_in, enT, in_2, i1, i2, i3, tset, lset]
    | 4 =>
      have i1 : (Str.ofString "all" == lword 4 || Str.ofString "none" == lword 4) = false := by decide +kernel
      have i3 : (Str.ofString "only" == lword 4 || Str.ofString "series" == lword 4) = false := by decide +kernel
      have i4 : (Str.ofString "from" == lword 4 || Str.ofString "before" == lword 4) = true := by decide +kernel
      have q2 : (Str.ofString "from" == Str.ofString "before") = false := by decide +kernel
      have i2 : ∀ e : En, opC .Eq (.str (lword 4)) (.str (Str.ofString "before")) e = .ok (.val (.bl false)) e := fun e => by rw [show lword 4 = Str.ofString "from" from rfl, eq_ss, q2]
      have bb : ∀ (b : Bool) (e : En), opC .Eq (.bl b) (.bl false) e = .ok (.val (.bl (!b))) e := fun b e => by cases b <;> rfl
      simp [sem__law_is_in, m__law_is_in, enT, in_2, i1, i2, i3, i4, tset, lset, bb]
    | k + 5 =>
      have lw : lword (k + 5) = Str.ofString "before" := rfl
      have i1 : (Str.ofString "all" == Str.ofString "before" || Str.ofString "none" == Str.ofString "before") = false := by decide +kernel
      have i3 : (Str.ofString "only" == Str.ofString "before" || Str.ofString "series" == Str.ofString "before") = false := by decide +kernel
      have i4 : (Str.ofString "from" == Str.ofString "before" || Str.ofString "before" == Str.ofString "before") = true := by decide +kernel
      have q2 : (Str.ofString "before" == Str.ofString "before") = true := by decide +kernel
      have i2 : ∀ e : En, opC .Eq (.str (Str.ofString "before")) (.str (Str.ofString "before")) e = .ok (.val (.bl true)) e := fun e => by rw [eq_ss, q2]
      have bb : ∀ (b : Bool) (e : En), opC .Eq (.bl b) (.bl true) e = .ok (.val (.bl b)) e := fun b e => by cases b <;> rfl
      have ls : lset (k + 5) n x = decide (x < n) := rfl
      have j1 : ∀ e : En, opC .In (.str (Str.ofString "before")) (.tup [.str (Str.ofString "all"), .str (Str.ofString "none")]) e = .ok (.val (.bl false)) e := fun e => by rw [in_2, i1]
      have j3 : ∀ e : En, opC .In (.str (Str.ofString "before")) (.tup [.str (Str.ofString "only"), .str (Str.ofString "series")]) e = .ok (.val (.bl false)) e := fun e => by rw [in_2, i3]
      have j4 : ∀ e : En, opC .In (.str (Str.ofString "before")) (.tup [.str (Str.ofString "from"), .str (Str.ofString "before")]) e = .ok (.val (.bl true)) e := fun e => by rw [in_2, i4]
      simp [sem__law_is_in, m__law_is_in, enT, lw, j1, i2, j3, j4, tset, ls, bb]
  | .inv t, m + 1, x, h, hx => by
    obtain ⟨e1, E1⟩ := isin_eq t m (x := x) (by unfold dep at h; omega) hx
    have i1 : (Str.ofString "all" == Str.ofString "not" || Str.ofString "none" == Str.ofString "not") = false := by decide +kernel
    have i3 : (Str.ofString "only" == Str.ofString "not" || Str.ofString "series" == Str.ofString "not") = false := by decide +kernel
    have i4 : (Str.ofString "from" == Str.ofString "not" || Str.ofString "before" == Str.ofString "not") = false := by decide +kernel
    have q2 : (Str.ofString "not" == Str.ofString "not") = true := by decide +kernel
    have i2 : ∀ e : En, opC .Eq (.str (Str.ofString "not")) (.str (Str.ofString "not")) e = .ok (.val (.bl true)) e := fun e => by rw [eq_ss, q2]
    have j1 : ∀ e : En, opC .In (.str (Str.ofString "not")) (.tup [.str (Str.ofString "all"), .str (Str.ofString "none")]) e = .ok (.val (.bl false)) e := fun e => by rw [in_2, i1]
    have j3 : ∀ e : En, opC .In (.str (Str.ofString "not")) (.tup [.str (Str.ofString "only"), .str (Str.ofString "series")]) e = .ok (.val (.bl false)) e := fun e => by rw [in_2, i3]
    have j4 : ∀ e : En, opC .In (.str (Str.ofString "not")) (.tup [.str (Str.ofString "from"), .str (Str.ofString "before")]) e = .ok (.val (.bl false)) e := fun e => by rw [in_2, i4]
    simp [sem__law_is_in, m__law_is_in, enT, j1, j3, j4, i2, sh__law_is_in_0, pick, Src.get, E1, tset]
  | .bin k t u, m + 1, x, h, hx => by
    obtain ⟨e1, E1⟩ := isin_eq t m (x := x) (by unfold dep at h; omega) hx
    obtain ⟨e2, E2⟩ := isin_eq u m (x := x) (by unfold dep at h; omega) hx
    have bb : ∀ (a b : Bool) (e : En), opC .NotEq (.bl a) (.bl b) e = .ok (.val (.bl (a != b))) e := fun a b e => by cases a <;> cases b <;> rfl
    have nd : ([Str.ofString "and", Str.ofString "or", Str.ofString "less"] : List Str).Nodup := by decide +kernel
    have G : ∀ w : String, w = "and" ∨ w = "or" ∨ w = "less" ∨ w = "unlike" → (Str.ofString "all" == Str.ofString w || Str.ofString "none" == Str.ofString w) = false ∧ (Str.ofString "only" == Str.ofString w || Str.ofString "series" == Str.ofString w) = false ∧ (Str.ofString "from" == Str.ofString w || Str.ofString "before" == Str.ofString w) = false ∧ (Str.ofString w == Str.ofString "not") = false := fun w hw => by
      rcases hw with rfl | rfl | rfl | rfl <;> decide +kernel
    have bk : ∃ w : String, bword k = Str.ofString w ∧ (w = "and" ∨ w = "or" ∨ w = "less" ∨ w = "unlike") := by
      match k with
      | 0 => exact ⟨"and", rfl, .inl rfl⟩
      | 1 => exact ⟨"or", rfl, .inr (.inl rfl)⟩
      | 2 => exact ⟨"less", rfl, .inr (.inr (.inl rfl))⟩
      | k + 3 => exact ⟨"unlike", rfl, .inr (.inr (.inr rfl))⟩
    obtain ⟨w, hw, hc⟩ := bk
    obtain ⟨g1, g3, g4, g2⟩ := G w hc
    have i2 : ∀ e : En, opC .Eq (.str (Str.ofString w)) (.str (Str.ofString "not")) e = .ok (.val (.bl false)) e := fun e => by rw [eq_ss, g2]
    have j1 : ∀ e : En, opC .In (.str (Str.ofString w)) (.tup [.str (Str.ofString "all"), .str (Str.ofString "none")]) e = .ok (.val (.bl false)) e := fun e => by rw [in_2, g1]
    have j3 : ∀ e : En, opC .In (.str (Str.ofString w)) (.tup [.str (Str.ofString "only"), .str (Str.ofString "series")]) e = .ok (.val (.bl false)) e := fun e => by rw [in_2, g3]
    have j4 : ∀ e : En, opC .In (.str (Str.ofString w)) (.tup [.str (Str.ofString "from"), .str (Str.ofString "before")]) e = .ok (.val (.bl false)) e := fun e => by rw [in_2, g4]
    have dv : dval [.inr (Str.ofString "and"), .inr (Str.ofString "or"), .inr (Str.ofString "less")] [.bl (tset t x && tset u x), .bl (tset t x || tset u x), .bl (tset t x && !tset u x)] (.inr (Str.ofString w)) = if k < 3 then some (.bl (bset k (tset t x) (tset u x))) else none := by
      match k, hw with
      | 0, hw => rw [← hw]; rfl
      | 1, hw => rw [← hw]; rw [dval_cons, if_neg (by decide +kernel)]; rfl
      | 2, hw => rw [← hw]; rw [dval_cons, if_neg (by decide +kernel), dval_cons, if_neg (by decide +kernel)]; rfl
      | k + 3, hw =>
        rw [← hw, show bword (k + 3) = Str.ofString "unlike" from rfl, dval_cons, if_neg (by decide +kernel), dval_cons, if_neg (by decide +kernel), dval_cons, if_neg (by decide +kernel), if_neg (by omega)]
        rfl
    have ix2 : ∀ a b c : PV, ixP (.tup [a, b, c]) (.int 2) = some c := fun a b c => by simp [ixP, atI, ixN]
    have fin : ¬ k < 3 → ∀ a b, bset k a b = (a != b) := fun hk a b => by
      match k, hk with
      | 0, hk => omega
      | 1, hk => omega
      | 2, hk => omega
      | k + 3, _ => rfl
    show ∃ e, _ = FR.ret (.val (.bl (bset k (tset t x) (tset u x)))) e
    generalize tset t x = a at *
    generalize tset u x = b at *
    by_cases hk : k < 3
    · rw [if_pos hk] at dv
      cases a <;> cases b <;> simp only [Bool.and_true, Bool.and_false, Bool.or_true, Bool.or_false, Bool.true_and, Bool.false_and, Bool.not_true, Bool.not_false, Bool.or_self, Bool.and_self] at dv <;> simp [sem__law_is_in, m__law_is_in, enT, hw, j1, j3, j4, i2, sh__law_is_in_0, pick, Src.get, E1, E2, ix2, nd, bb, dv]
    · rw [if_neg hk] at dv
      rw [fin hk]
      cases a <;> cases b <;> simp only [Bool.and_true, Bool.and_false, Bool.or_true, Bool.or_false, Bool.true_and, Bool.false_and, Bool.not_true, Bool.not_false, Bool.or_self, Bool.and_self] at dv <;> simp [sem__law_is_in, m__law_is_in, enT, hw, j1, j3, j4, i2, sh__law_is_in_0, pick, Src.get, E1, E2, ix2, nd, bb, dv]
/-! ### leaves -/
def lf : Nat → Int → Sts
  | 0, _ => wh
  | 1, _ => []
  | 2, n => [(n, some (n + 1))]
  | 3, n => [(n / 1000000000 * 1000000000, some ((n / 1000000000 + 1) * 1000000000))]
  | 4, n => [(n, none)]
  | _, n => bef n
theorem lf_spec {n : Int} (h : Tn 3 n) : ∀ f, Rs (fun x => Tp x && lset f n x) 1 (lf f n) ∧ ∀ z ∈ bnds (lf f n), Tn 4 z := by
  obtain ⟨h1, h2, h3⟩ := h
  have key : ∀ (p : Int → Bool) (s : Sts), Rg s → s.length ≤ 1 → (∀ z ∈ bnds s, Tn 4 z) → (∀ x, hasN s x = p x) → Rs p 1 s ∧ ∀ z ∈ bnds s, Tn 4 z := fun p s a b c d => ⟨⟨a, b, fun z hz => (c z hz).mono (by omega), d⟩, c⟩
  intro f
  match f with
  | 0 =>
    refine key _ _ wh_rg (by simp [lf, wh]) (fun z hz => ?_) fun x => ?_
    · simp [lf, bnds, wh] at hz
      subst hz
      exact ⟨by omega, by omega, by omega⟩
    · simp [lf, hasN, inS, wh, Tp, lset]
  | 1 =>
    refine key _ _ .nil (by simp [lf]) (fun z hz => ?_) fun x => ?_
    · cases hz
    · simp [lf, hasN, lset]
  | 2 =>
    refine key _ _ (.cons h1 (by omega) .nil) (by simp [lf]) (fun z hz => ?_) fun x => ?_
    · simp [lf, bnds] at hz
      rcases hz with rfl | rfl
      · exact ⟨h1, by omega, by omega⟩
      · exact ⟨by omega, by omega, by omega⟩
    · simp only [lf, hasN, inS, List.any_cons, List.any_nil, Bool.or_false, Tp, lset]
      rw [Bool.eq_iff_iff]
      simp
      omega
  | 3 =>
    refine key _ _ (.cons (by omega) (by omega) .nil) (by simp [lf]) (fun z hz => ?_) fun x => ?_
    · simp [lf, bnds] at hz
      rcases hz with rfl | rfl
      · exact ⟨by omega, by omega, by omega⟩
      · exact ⟨by omega, by omega, by omega⟩
    · simp only [lf, hasN, inS, List.any_cons, List.any_nil, Bool.or_false, Tp, lset]
      rw [Bool.eq_iff_iff]
      simp
      omega
  | 4 =>
    refine key _ _ (.last h1) (by simp [lf]) (fun z hz => ?_) fun x => ?_
    · simp [lf, bnds] at hz
      subst hz
      exact ⟨h1, by omega, by omega⟩
    · simp only [lf, hasN, inS, List.any_cons, List.any_nil, Bool.or_false, Tp, lset]
      rw [Bool.eq_iff_iff]
      simp
      omega
  | k + 5 =>
    have e1 : lf (k + 5) n = bef n := rfl
    have e2 : ∀ x, lset (k + 5) n x = decide (x < n) := fun x => rfl
    rw [e1]
    simp only [e2]
    refine key _ _ (bef_rg h1) (by unfold bef; split <;> simp) (fun z hz => ?_) fun x => ?_
    · unfold bef at hz
      split at hz
      · cases hz
      · simp [bnds] at hz
        rcases hz with rfl | rfl
        · exact ⟨by omega, by omega, by omega⟩
        · exact ⟨h1, by omega, by omega⟩
    · unfold bef
      split
      · simp only [hasN, List.any_nil, Tp]
        rw [Bool.eq_iff_iff]
        simp
        omega
      · simp only [hasN, inS, List.any_cons, List.any_nil, Bool.or_false, Tp]
theorem leaf_spec (F : FqC fq) {o : MO} (hb : Bx o) : ∃ f n o' e', f < 6 ∧ Tn 3 n ∧ Bx o' ∧ sem__law_leaf fq [.par o] = .ret (.val (.tup [rg (lf f n), enT (.leaf f n)])) (some (.par o') :: e') := by
  obtain ⟨r1, o1, e1, a0, a1, b1, E1⟩ := take_spec (n := 3) hb (by omega) (by omega)
  obtain ⟨r2, o2, e2, c0, c1, b2, E2⟩ := take_spec (n := 4) b1 (by omega) (by omega)
  obtain ⟨r3, o3, e3, d0, d1, b3, E3⟩ := take_spec (n := 6) b2 (by omega) (by omega)
  obtain ⟨n, hn⟩ : ∃ n, n = (1 + r1) * 1000000000 + r2 := ⟨_, rfl⟩
  have tn : Tn 3 n := ⟨by omega, by omega, by omega⟩
  have en : PV.tup [.int (1 + r1), .int r2] = enc n := by rw [hn]; exact enc_of c0 (by omega)
  have EV := fun e => every_cm (e := e) F.g
  have EN := fun e => nothing_cm (e := e) F.g
  obtain ⟨f, hf⟩ := Int.eq_ofNat_of_zero_le d0
  subst hf
  have hf : f < 6 := by omega
  refine ⟨f, n, o3, [some (.val (rg (lf f n))), some (.val (enc n)), some (.val (.int f))], hf, tn, b3, ?_⟩
  have g1 : ∀ (e : En) (p : Option Slot), e = [some (.par o3), p, some (.val (enc n)), some (.val (.int f))] → cmethM [⟨"Range", (E_Range_only fq)⟩] "only" 2 [] (opdM (EM.ret (.val (.cls "Range")))) (opdsCons (opdM (getM 2)) opdsNil) opdsNil e = .ok (.own (rgO (lf 2 n))) e := fun e p he => (only_cm F.g tn.1 (by have := tn.2.2; omega) (by rw [he]; simp)).1
  have g2 : ∀ (e : En) (p : Option Slot), e = [some (.par o3), p, some (.val (enc n)), some (.val (.int f))] → cmethM [⟨"Range", (E_Range_series fq)⟩] "series" 2 [] (opdM (EM.ret (.val (.cls "Range")))) (opdsCons (opdM (ixM (slotM 2) (opdM (EM.ret (.val (.int 0)))))) opdsNil) opdsNil e = .ok (.own (rgO (lf 3 n))) e := fun e p he => (series_cm F.g (a := n / 1000000000) (by have := tn.1; omega) (by rw [he]; simp)).1
  have g3 : ∀ (e : En) (p : Option Slot), e = [some (.par o3), p, some (.val (enc n)), some (.val (.int f))] → cmethM [⟨"Range", (E_Range_from_on fq)⟩] "from_on" 2 [] (opdM (EM.ret (.val (.cls "Range")))) (opdsCons (opdM (getM 2)) opdsNil) opdsNil e = .ok (.own (rgO (lf 4 n))) e := fun e p he => (from_cm F.g tn.1 (by rw [he]; simp)).1
  have g4 : ∀ (e : En) (p : Option Slot), e = [some (.par o3), p, some (.val (enc n)), some (.val (.int f))] → cmethM [⟨"Range", (E_Range_before fq)⟩] "before" 2 [] (opdM (EM.ret (.val (.cls "Range")))) (opdsCons (opdM (getM 2)) opdsNil) opdsNil e = .ok (.own (rgO (lf 5 n))) e := fun e p he => (before_cm F.g tn.1 (by rw [he]; simp)).1
  have ix : ∀ (xs : List PV) (p : PV), xs[f]? = some p → ixP (.lst xs) (.int f) = some p := fun xs p h => by
    obtain ⟨hl, he⟩ := List.getElem?_eq_some_iff.mp h
    simp [ixP, atI, ixN, hl, he]
  have i1 := ix [rg (lf 0 n), rg (lf 1 n), rg (lf 2 n), rg (lf 3 n), rg (lf 4 n), rg (lf 5 n)] (rg (lf f n)) (by
    match f, hf with
    | 0, _ => rfl
    | 1, _ => rfl
    | 2, _ => rfl
    | 3, _ => rfl
    | 4, _ => rfl
    | 5, _ => rfl)
  have i2 := ix [.str "all", .str "none", .str "only", .str "series", .str "from", .str "before"] (.str (lword f)) (by
    match f, hf with
    | 0, _ => rfl
    | 1, _ => rfl
    | 2, _ => rfl
    | 3, _ => rfl
    | 4, _ => rfl
    | 5, _ => rfl)
  have w0 : rg wh = rg (lf 0 n) := rfl
  have w1 : rg [] = rg (lf 1 n) := rfl
  simp [sem__law_leaf, m__law_leaf, sh__law_take_0, pick, Src.get, E1, E2, E3, en, EV, EN, pv_rgO, g1 _ none rfl, g2 _ none rfl, g3 _ (some (.own (.lst [rg (lf 0 n), rg (lf 1 n), rg (lf 2 n), rg (lf 3 n)]))) rfl, g4 _ (some (.own (.lst [rg (lf 0 n), rg (lf 1 n), rg (lf 2 n), rg (lf 3 n)]))) rfl, w0, w1, i1, i2, enT]
/-! ### trees -/
theorem cmpX_si {tbl : List MethE} {e : En} {i : Nat} {x y : Int} {op : CmpOp} (h : e[i]? = some (some (.val (.int x)))) : cmpX fq tbl op (.slot i) (.pv (.int y)) e = opC op (.int x) (.int y) e := cmpX_plain (by simp [h]) rfl rfl rfl
theorem opX_si {tbl : List MethE} {e : En} {i : Nat} {x y : Int} {op : Operator} (h : e[i]? = some (some (.val (.int x)))) : opX fq tbl op (.slot i) (.pv (.int y)) e = opB op (.int x) (.int y) e := by
  unfold opX EM.bind
  have : (Opd.slot i).look e = some (.int x) := by simp [h]
  simp only [lookM_app, this]
  rfl
structure Tq (t : Tr) (d : Nat) (s : Sts) : Prop where
  dp : dep t ≤ d
  rs : Rs (fun x => Tp x && tset t x) (2 ^ (d + 1) - 1) s
  bd : ∀ z ∈ bnds s, Tn 4 z
theorem pow_pos' (d : Nat) : 1 ≤ 2 ^ (d + 1) - 1 := by
  have : 2 ^ 1 ≤ 2 ^ (d + 1) := Nat.pow_le_pow_right (by omega) (by omega)
  omega
theorem Tq.leaf {f : Nat} {n : Int} (h : Tn 3 n) {d : Nat} : Tq (.leaf f n) d (lf f n) := by
  obtain ⟨h1, h2⟩ := lf_spec h f
  exact ⟨Nat.zero_le _, h1.mono (pow_pos' d), h2⟩
theorem Tq.inv {t : Tr} {d : Nat} {s : Sts} (h : Tq t d s) : Tq (.inv t) (d + 1) (jn "less" wh s) := by
  refine ⟨by have := h.dp; show dep t + 1 ≤ _; omega, (h.rs.inv.mono ?_).congr fun x => ?_, fun z hz => ?_⟩
  · have := pow_pos' d
    rw [Nat.pow_succ 2 (d + 1)]
    omega
  · show _ = (Tp x && !tset t x)
    cases Tp x <;> cases tset t x <;> rfl
  · rcases jn_bnds hz with hz | hz
    · simp [bnds, wh] at hz
      subst hz
      exact ⟨by omega, by omega, by omega⟩
    · exact h.bd z hz
theorem Tq.bin {t u : Tr} {d : Nat} {s r : Sts} {w : Str} (k : Nat) (hw : Wd w) (hf : ∀ a b, wf w a b = bset k a b) (h : Tq t d s) (g : Tq u d r) : Tq (.bin k t u) (d + 1) (jn w s r) := by
  refine ⟨by have := h.dp; have := g.dp; show max (dep t) (dep u) + 1 ≤ _; omega, ((Rs.jn hw h.rs g.rs).mono ?_).congr fun x => ?_, fun z hz => (jn_bnds hz).elim (h.bd z) (g.bd z)⟩
  · have := pow_pos' d
    rw [Nat.pow_succ 2 (d + 1)]
    omega
  · show wf w _ _ = (Tp x && bset k (tset t x) (tset u x))
    rw [hf]
    cases Tp x
    · show bset k false false = false
      rw [← hf]
      exact tup_of hw
    · rfl
theorem Tq.ln {t : Tr} {d : Nat} {s : Sts} (h : Tq t d s) (hd : d ≤ 4) : s.length ≤ 31 := by
  have := h.rs.ln
  have : 2 ^ (d + 1) ≤ 2 ^ 5 := Nat.pow_le_pow_right (by omega) (by omega)
  omega
theorem tree_spec (F : FqC fq) : ∀ (d m : Nat) {D : Int} {o : MO}, D = d → d < m → d ≤ 4 → Bx o → ∃ t s o' e', Bx o' ∧ Tq t d s ∧ sem__law_tree fq m [.par o, .val (.int D)] = .ret (.val (.tup [rg s, enT t])) (some (.par o') :: e')
  | d, 0, D, o, _, h, _, _ => by omega
  | d, m + 1, D, o, hD, hm, h4, hb => by
    obtain ⟨r, o1, e1, r0, r1, b1, E1⟩ := take_spec (n := 7) hb (by omega) (by omega)
    obtain ⟨f, n, o2, e2, hf, tn, b2, E2⟩ := leaf_spec F b1
    have L : ∃ t s o' e', Bx o' ∧ Tq t d s ∧ FR.ret (.val (.tup [rg (lf f n), enT (.leaf f n)])) [some (.par o2), some (.val (.int D)), some (.val (.int r)), none, none, none, none] = .ret (.val (.tup [rg s, enT t])) (some (.par o') :: e') := ⟨.leaf f n, lf f n, o2, _, b2, Tq.leaf tn, rfl⟩
    have c1 : ∀ {tbl : List MethE} {op : CmpOp} {y : Int} {e : En}, e[1]? = some (some (.val (.int D))) → cmpX fq tbl op (.slot 1) (.pv (.int y)) e = opC op (.int D) (.int y) e := fun h => cmpX_si h
    have c2 : ∀ {tbl : List MethE} {op : CmpOp} {y : Int} {e : En}, e[2]? = some (some (.val (.int r))) → cmpX fq tbl op (.slot 2) (.pv (.int y)) e = opC op (.int r) (.int y) e := fun h => cmpX_si h
    have c3 : ∀ {tbl : List MethE} {op : Operator} {y : Int} {e : En}, e[1]? = some (some (.val (.int D))) → opX fq tbl op (.slot 1) (.pv (.int y)) e = opB op (.int D) (.int y) e := fun h => opX_si h
    by_cases hd0 : D = 0
    · obtain ⟨t, s, o', e', q1, q2, q3⟩ := L
      refine ⟨t, s, o', e', q1, q2, ?_⟩
      rw [← q3]
      simp [sem__law_tree, m__law_tree, sh__law_take_0, sh__law_leaf_0, pick, Src.get, E1, c1, hd0, E2]
    · by_cases h5 : 5 < r
      · obtain ⟨t, s, o', e', q1, q2, q3⟩ := L
        refine ⟨t, s, o', e', q1, q2, ?_⟩
        rw [← q3]
        simp [sem__law_tree, m__law_tree, sh__law_take_0, sh__law_leaf_0, pick, Src.get, E1, c1, c2, hd0, h5, E2]
      · obtain ⟨k, rfl⟩ : ∃ k, d = k + 1 := ⟨d - 1, by omega⟩
        obtain ⟨t, s, o3, e3, b3, T3, E3⟩ := tree_spec F k m (D := D - 1) (by omega) (by omega) (by omega) b1
        have l3 := T3.ln (by omega)
        by_cases h6 : r = 5
        · refine ⟨.inv t, _, o3, [some (.val (.int D)), some (.val (.int r)), some (.val (rg s)), some (.val (enT t)), none, none], b3, T3.inv, ?_⟩
          have O := invX_rg F.g (e := [some (.par o3), some (.val (.int D)), some (.val (.int r)), some (.val (rg s)), some (.val (enT t)), none, none]) (a := .slot 3) (At.slot rfl) T3.rs.rg (by omega)
          rw [h6] at O
          simp [sem__law_tree, m__law_tree, sh__law_take_0, sh__law_tree_0, pick, Src.get, E1, c1, c2, c3, hd0, h5, E3, h6, O, pv_rgO, enT]
        · obtain ⟨u, v, o4, e4, b4, T4, E4⟩ := tree_spec F k m (D := D - 1) (by omega) (by omega) (by omega) b3
          have l4 := T4.ln (by omega)
          have A := At.slot (e := [some (.par o4), some (.val (.int D)), some (.val (.int r)), some (.val (rg s)), some (.val (enT t)), some (.val (rg v)), some (.val (enT u))]) (i := 3) (s := s) rfl
          have B := At.slot (e := [some (.par o4), some (.val (.int D)), some (.val (.int r)), some (.val (rg s)), some (.val (enT t)), some (.val (rg v)), some (.val (enT u))]) (i := 5) (s := v) rfl
          have O1 := opX_and F.g A B T3.rs.rg T4.rs.rg (by omega) (by omega)
          have O2 := opX_or F.g A B T3.rs.rg T4.rs.rg (by omega) (by omega)
          have O3 := opX_sub F.g A B T3.rs.rg T4.rs.rg (by omega) (by omega)
          have O4 := opX_xor F.g A B T3.rs.rg T4.rs.rg (by omega) (by omega)
          have S : ∀ (w : Str) (k' : Nat), Wd w → (∀ a b, wf w a b = bset k' a b) → sem__law_tree fq (m + 1) [.par o, .val (.int D)] = .ret (.val (.tup [rg (jn w s v), enT (.bin k' t u)])) [some (.par o4), some (.val (.int D)), some (.val (.int r)), some (.val (rg s)), some (.val (enT t)), some (.val (rg v)), some (.val (enT u))] → ∃ t s o' e', Bx o' ∧ Tq t (k + 1) s ∧ sem__law_tree fq (m + 1) [.par o, .val (.int D)] = .ret (.val (.tup [rg s, enT t])) (some (.par o') :: e') := fun w k' hw hf he => ⟨_, _, o4, _, b4, T3.bin k' hw hf T4, he⟩
          have hr : r = 0 ∨ r = 1 ∨ r = 2 ∨ r = 3 ∨ r = 4 := by omega
          rcases hr with rfl | rfl | rfl | rfl | rfl
          · refine S "and" 0 (.inl rfl) (fun a b => rfl) ?_
            simp [sem__law_tree, m__law_tree, sh__law_take_0, sh__law_tree_0, pick, Src.get, E1, c1, c2, c3, hd0, E3, E4, O1, O2, O3, O4, pv_rgO, enT, bword]
          · refine S "or" 1 (.inr (.inl rfl)) (fun a b => wf_or) ?_
            simp [sem__law_tree, m__law_tree, sh__law_take_0, sh__law_tree_0, pick, Src.get, E1, c1, c2, c3, hd0, E3, E4, O1, O2, O3, O4, pv_rgO, enT, bword]
          · refine S "less" 2 (.inr (.inr (.inl rfl))) (fun a b => wf_less) ?_
            simp [sem__law_tree, m__law_tree, sh__law_take_0, sh__law_tree_0, pick, Src.get, E1, c1, c2, c3, hd0, E3, E4, O1, O2, O3, O4, pv_rgO, enT, bword]
          · refine S "unlike" 3 (.inr (.inr (.inr rfl))) (fun a b => wf_unlike) ?_
            simp [sem__law_tree, m__law_tree, sh__law_take_0, sh__law_tree_0, pick, Src.get, E1, c1, c2, c3, hd0, E3, E4, O1, O2, O3, O4, pv_rgO, enT, bword]
          · refine S "less" 2 (.inr (.inr (.inl rfl))) (fun a b => wf_less) ?_
            simp [sem__law_tree, m__law_tree, sh__law_take_0, sh__law_tree_0, pick, Src.get, E1, c1, c2, c3, hd0, E3, E4, O1, O2, O3, O4, pv_rgO, enT, bword]
/-! ### the grid of releases -/
def row (a : Int) : List Int := (List.range 7).map fun (b : Nat) => a * 1000000000 + b
def grid : List Int := [1, 2, 3, 4, 5].flatMap row
theorem ext_app {xs ys : List PV} (h : (xs ++ ys).length ≤ 16777216) : extX ys xs = some (xs ++ ys, .val .non) := by
  unfold extX
  rw [if_pos (by simp at h ⊢; omega)]
theorem turn1 {a : Int} {f : List Int} (hf : f.length ≤ 1000) {x0 x1 x2 x5 x6 x7 x8 x9 x10 x11 x12 : Option Slot} : l_law_k12_1 fq [x0, x1, x2, some (.own (.lst (f.map enc))), some (.val (.int a)), x5, x6, x7, x8, x9, x10, x11, x12, none] = .nx [x0, x1, x2, some (.own (.lst ((f ++ row a).map enc))), some (.val (.int a)), x5, x6, x7, x8, x9, x10, x11, x12, none] := by
  have lp : lcLoop (lcTurn (bndNm 13) (EM.ret true) [13] (eltM (e_law_k12_0 fq))) (rngP 0 7) [x0, x1, x2, some (.own (.lst (f.map enc))), some (.val (.int a)), x5, x6, x7, x8, x9, x10, x11, x12, none] = .ok ((row a).map enc) [x0, x1, x2, some (.own (.lst (f.map enc))), some (.val (.int a)), x5, x6, x7, x8, x9, x10, x11, x12, none] := by
    have e1 : rngP 0 7 = (List.range 7).map fun (k : Nat) => PV.int k := by
      unfold rngP
      simp
    have e2 : (row a).map enc = (List.range 7).map fun (k : Nat) => PV.tup [.int a, .int k] := by
      unfold row
      rw [List.map_map]
      refine List.map_congr_left fun k hk => ?_
      have := List.mem_range.mp hk
      exact (enc_of (by omega) (by omega)).symm
    rw [e1, e2]
    refine lcLoop_mapF fun k hk => ?_
    simp [e_law_k12_0]
  have r7 : inR 7 = true := by decide
  have hx : extX ((row a).map enc) (f.map enc) = some ((f ++ row a).map enc, .val .non) := by
    rw [ext_app (by simp [row]; omega), List.map_append]
  have rl : (row a).length ≤ 16777216 := by simp [row]
  have lm : ∀ (g : List PV → EM RV) (ps : List PV) (e : En), lstM' g (.lst ps) e = g ps e := fun _ _ _ => rfl
  simp [l_law_k12_1, r7, lp, hx, rl, lm]
theorem loop1 {x0 x1 x2 x5 x6 x7 x8 x9 x10 x11 x12 : Option Slot} : ∀ (as : List Int) {f : List Int} {x4 : Option Slot}, f.length + 7 * as.length ≤ 900 → pinO x4 = false → ∃ y4, pinO y4 = false ∧ loopM (bndNm 4) (l_law_k12_1 fq) (as.map .int) [x0, x1, x2, some (.own (.lst (f.map enc))), x4, x5, x6, x7, x8, x9, x10, x11, x12, none] = .nx [x0, x1, x2, some (.own (.lst ((f ++ as.flatMap row).map enc))), y4, x5, x6, x7, x8, x9, x10, x11, x12, none]
  | [], f, x4, _, h4 => ⟨x4, h4, by simp [loopM]⟩
  | a :: as, f, x4, hl, h4 => by
    have rl : (row a).length = 7 := by simp [row]
    obtain ⟨y4, g4, L⟩ := loop1 (x0 := x0) (x1 := x1) (x2 := x2) (x5 := x5) (x6 := x6) (x7 := x7) (x8 := x8) (x9 := x9) (x10 := x10) (x11 := x11) (x12 := x12) as (f := f ++ row a) (x4 := some (.val (.int a))) (by simp [rl] at hl ⊢; omega) rfl
    refine ⟨y4, g4, ?_⟩
    have T := turn1 (fq := fq) (a := a) (f := f) (by simp at hl; omega) (x0 := x0) (x1 := x1) (x2 := x2) (x5 := x5) (x6 := x6) (x7 := x7) (x8 := x8) (x9 := x9) (x10 := x10) (x11 := x11) (x12 := x12)
    rw [List.map_cons]
    unfold loopM
    simp only [bndNm_app] at *
    simp [h4] at *
    rw [T]
    simp
    simpa using L
theorem grid_low {n : Int} (h : n ∈ grid) : 1000000000 ≤ n := by
  unfold grid row at h
  simp only [List.mem_flatMap, List.mem_map, List.mem_range] at h
  obtain ⟨a, ha, b, hb, rfl⟩ := h
  simp at ha
  omega
theorem grid_mem {n : Int} (h : Tn 4 n) : n ∈ grid := by
  obtain ⟨h1, h2, h3⟩ := h
  unfold grid row
  simp only [List.mem_flatMap, List.mem_map, List.mem_range]
  refine ⟨n / 1000000000, by simp; omega, (n % 1000000000).toNat, by omega, by omega⟩
theorem grid_asc : grid.Pairwise (· < ·) := by decide
theorem head_of {q : Int → Bool} {x : Int} : ∀ {l : List Int}, l.Pairwise (· < ·) → x ∈ l → q x = true → (∀ y ∈ l, q y = true → x ≤ y) → ∃ r, l.filter q = x :: r
  | [], _, h, _, _ => by cases h
  | a :: l, hp, hm, hq, hle => by
    obtain ⟨h1, h2⟩ := List.pairwise_cons.mp hp
    rcases List.mem_cons.mp hm with rfl | hm
    · exact ⟨l.filter q, by rw [List.filter_cons_of_pos hq]⟩
    · have hlt := h1 x hm
      have na : ¬ q a = true := fun z => by
        have := hle a List.mem_cons_self z
        omega
      rw [List.filter_cons_of_neg na]
      exact head_of h2 hm hq fun y hy => hle y (List.mem_cons_of_mem _ hy)
theorem canon_ge {b : Int} {p : Int × Option Int} {r : Sts} (h : Canon b (p :: r)) {y : Int} (hy : hasN (p :: r) y = true) : p.1 ≤ y := by
  by_cases g : p.1 ≤ y
  · exact g
  · exfalso
    have c : Canon p.1 (p :: r) := by
      cases h with
      | last _ => exact .last (Int.le_refl _)
      | cons _ h2 h3 => exact .cons (Int.le_refl _) h2 h3
    rw [c.low (by omega)] at hy
    cases hy
theorem first_has {b : Int} {p : Int × Option Int} {r : Sts} (h : Canon b (p :: r)) : hasN (p :: r) p.1 = true := by
  rw [hasN_cons]
  have : inS p p.1 = true := by
    cases h with
    | last _ => simp [inS]
    | cons _ h2 _ => simp [inS, h2]
  rw [this]
  rfl
/-- the first of what is found is the least one -/
def hdP : List Int → PV
  | [] => .non
  | n :: _ => enc n
theorem least_found {t : Tr} {d : Nat} {s : Sts} (h : Tq t d s) : lstP s = hdP (grid.filter (hasN s)) := by
  cases s with
  | nil =>
    have : grid.filter (hasN []) = [] := List.filter_eq_nil_iff.mpr fun x _ => by simp [hasN]
    rw [this]
    rfl
  | cons p r =>
    obtain ⟨q, hq⟩ := head_of grid_asc (grid_mem (h.bd _ (mem_bnds List.mem_cons_self).1)) (first_has h.rs.rg) fun y _ hy => canon_ge h.rs.rg hy
    rw [hq]
    rfl
/-! ### put together again -/
theorem turn4 (F : FqC fq) {a s : Sts} {q : Int → Bool} {k : Nat} (ha : Rs q k a) (hk : k ≤ 300) {p : Int × Option Int} (hp : TnP 999 p) {x0 x1 x2 x3 x4 x5 x8 x11 : Option Slot} (h11 : pinO x11 = false) : ∃ b y11, Rs (fun x => q x || inS p x) (k + 4) b ∧ pinO y11 = false ∧
    l_law_k12_4 fq [x0, x1, x2, x3, x4, x5, some (.own (rgO a)), some (.val (rg s)), x8, some (.val (enc p.1)), some (.val (enO p.2)), x11, none, none] = .nx [x0, x1, x2, x3, x4, x5, some (.own (rgO b)), some (.val (rg s)), x8, some (.val (enc p.1)), some (.val (enO p.2)), y11, none, none] := by
  obtain ⟨l, o⟩ := p
  have T : ∀ n, Tn 999 n → Rs (fun x => decide (n ≤ x)) 1 [(n, none)] := fun n hn => ⟨.last hn.1, by simp, fun z hz => by
    simp [bnds] at hz
    subst hz
    exact hn, fun x => by simp [hasN, inS]⟩
  have hl := T l hp.1
  have la := ha.ln
  have G : ∀ (n : Int), Tn 999 n → ∀ (ms : EM (List Opd)) (e : En), ms e = .ok [.pv (enc n)] e → cmethM [⟨"Range", (E_Range_from_on fq)⟩] "from_on" 2 [] (opdM (EM.ret (.val (.cls "Range")))) ms opdsNil e = .ok (.own (rgO [(n, none)])) e := fun n hn ms e hm => (from_cm F.g hn.1 hm).1
  have G1 := G l hp.1 (opdsCons (opdM (getM 9)) opdsNil) [x0, x1, x2, x3, x4, x5, some (.own (rgO a)), some (.val (rg s)), x8, some (.val (enc l)), some (.val (enO o)), x11, none, none] (by simp)
  cases o with
  | none =>
    have O := ipX_orG F.g (e := [x0, x1, x2, x3, x4, x5, some (.own (rgO a)), some (.val (rg s)), x8, some (.val (enc l)), some (.val .non), some (.val (rg [(l, none)])), none, none]) (e2 := [x0, x1, x2, x3, x4, x5, some (.val (rg a)), some (.val (rg s)), x8, some (.val (enc l)), some (.val .non), some (.val (rg [(l, none)])), none, none]) (a := .slot 6) (b := .pv (rg [(l, none)])) ⟨rfl, rfl, _, rfl, rfl⟩ ha.rg hl.rg (by omega) (by simp)
    refine ⟨_, some (.val (rg [(l, none)])), ((ha.or hl).mono (by omega)).congr fun x => by simp [inS], rfl, ?_⟩
    simp only [enO] at G1
    simp [l_law_k12_4, enO, G1, h11, pv_rgO, O]
  | some h =>
    obtain ⟨hh, hlt⟩ := hp.2 h rfl
    have rh := T h hh
    have G2 := G h hh (opdsCons (opdM (getM 10)) opdsNil) [x0, x1, x2, x3, x4, x5, some (.own (rgO a)), some (.val (rg s)), x8, some (.val (enc l)), some (.val (enc h)), some (.own (rgO [(l, none)])), none, none] (by simp)
    have S := opX_subG F.g (e := [x0, x1, x2, x3, x4, x5, some (.own (rgO a)), some (.val (rg s)), x8, some (.val (enc l)), some (.val (enc h)), some (.own (rgO [(l, none)])), none, none]) (e2 := [x0, x1, x2, x3, x4, x5, some (.own (rgO a)), some (.val (rg s)), x8, some (.val (enc l)), some (.val (enc h)), some (.val (rg [(l, none)])), none, none]) (a := .slot 11) (b := .pv (rg [(h, none)])) ⟨rfl, rfl, _, rfl, rfl⟩ hl.rg rh.rg (by simp) (by simp)
    have rt := hl.less rh
    have O := ipX_orG F.g (e := [x0, x1, x2, x3, x4, x5, some (.own (rgO a)), some (.val (rg s)), x8, some (.val (enc l)), some (.val (enc h)), some (.val (rg [(l, none)])), none, none]) (e2 := [x0, x1, x2, x3, x4, x5, some (.val (rg a)), some (.val (rg s)), x8, some (.val (enc l)), some (.val (enc h)), some (.val (rg [(l, none)])), none, none]) (a := .slot 6) (b := .pv (rg (jn "less" [(l, none)] [(h, none)]))) ⟨rfl, rfl, _, rfl, rfl⟩ ha.rg rt.rg (by omega) (by have := rt.ln; omega)
    refine ⟨_, some (.val (rg [(l, none)])), ((ha.or rt).mono (by omega)).congr fun x => ?_, rfl, ?_⟩
    · simp only [inS]
      congr 1
      rw [Bool.eq_iff_iff]
      simp
    · simp only [enO] at G1
      simp [l_law_k12_4, enO, G1, h11, pv_rgO, G2, S, O]
theorem loop4 (F : FqC fq) {s : Sts} {x0 x1 x2 x3 x4 x5 x8 : Option Slot} : ∀ (ps : Sts) {a : Sts} {q : Int → Bool} {k : Nat} {x9 x10 x11 : Option Slot}, TnS 999 ps → Rs q k a → k + 4 * ps.length ≤ 300 → pinO x9 = false → pinO x10 = false → pinO x11 = false → ∃ b y9 y10 y11, Rs (fun x => q x || hasN ps x) (k + 4 * ps.length) b ∧ pinO y9 = false ∧ pinO y10 = false ∧ pinO y11 = false ∧
    loopM (bndTup [9, 10]) (l_law_k12_4 fq) (enS ps) [x0, x1, x2, x3, x4, x5, some (.own (rgO a)), some (.val (rg s)), x8, x9, x10, x11, none, none] = .nx [x0, x1, x2, x3, x4, x5, some (.own (rgO b)), some (.val (rg s)), x8, y9, y10, y11, none, none]
  | [], a, q, k, x9, x10, x11, _, ha, _, h9, h10, h11 => ⟨a, x9, x10, x11, ha.congr fun x => by simp [hasN], h9, h10, h11, rfl⟩
  | p :: ps, a, q, k, x9, x10, x11, hp, ha, hk, h9, h10, h11 => by
    obtain ⟨b, y11, hb, g11, T⟩ := turn4 F (s := s) ha (by simp at hk; omega) (hp p List.mem_cons_self) (x0 := x0) (x1 := x1) (x2 := x2) (x3 := x3) (x4 := x4) (x5 := x5) (x8 := x8) h11
    obtain ⟨c, z9, z10, z11, hc, k9, k10, k11, L⟩ := loop4 F (s := s) (x0 := x0) (x1 := x1) (x2 := x2) (x3 := x3) (x4 := x4) (x5 := x5) (x8 := x8) ps (x9 := some (.val (enc p.1))) (x10 := some (.val (enO p.2))) (fun r hr => hp r (List.mem_cons_of_mem _ hr)) hb (by simp at hk; omega) rfl rfl g11
    refine ⟨c, z9, z10, z11, (hc.mono (by simp; omega)).congr fun x => ?_, k9, k10, k11, ?_⟩
    · rw [hasN_cons, Bool.or_assoc]
    · show loopM (bndTup [9, 10]) (l_law_k12_4 fq) (.tup [enc p.1, enO p.2] :: enS ps) _ = _
      unfold loopM
      simp [h9, h10, T, L]
theorem filt {q : Int → Bool} : ∀ {l : List Int}, l.filterMap (fun n => if q n then some (enc n) else none) = (l.filter q).map enc
  | [] => rfl
  | n :: l => by
    cases h : q n
    · rw [List.filterMap_cons_none (by simp [h]), List.filter_cons_of_neg (by simp [h]), filt]
    · rw [List.filterMap_cons_some (b := enc n) (by simp [h]), List.filter_cons_of_pos h, List.map_cons, filt]
theorem turn5 (F : FqC fq) {ns : List Int} {i : Int} (hi : 0 ≤ i) {x2 x3 x4 x5 x6 x7 x8 x9 x10 x11 : Option Slot} (h2 : pinO x2 = false) (h3 : pinO x3 = false) (h4 : pinO x4 = false) (h5 : pinO x5 = false) (h6 : pinO x6 = false) (h7 : pinO x7 = false) (h8 : pinO x8 = false) (h9 : pinO x9 = false) (h10 : pinO x10 = false) (h11 : pinO x11 = false) :
    ∃ y2 y3 y4 y5 y6 y7 y8 y9 y10 y11, pinO y2 = false ∧ pinO y3 = false ∧ pinO y4 = false ∧ pinO y5 = false ∧ pinO y6 = false ∧ pinO y7 = false ∧ pinO y8 = false ∧ pinO y9 = false ∧ pinO y10 = false ∧ pinO y11 = false ∧
      l_law_k12_5 fq [some (.val (.rdl (ns.map .int))), some (.val (.int i)), x2, x3, x4, x5, x6, x7, x8, x9, x10, x11, none, none] = .nx [some (.val (.rdl (ns.map .int))), some (.val (.int i)), y2, y3, y4, y5, y6, y7, y8, y9, y10, y11, none, none] := by
  obtain ⟨bx, e1, hbx, E1⟩ := box_spec (ns := ns) hi
  obtain ⟨r, o1, e2, r0, r1, b1, E2⟩ := take_spec (n := 3) hbx (by omega) (by omega)
  obtain ⟨d, hd⟩ : ∃ d : Nat, (2 + r : Int) = d := ⟨(2 + r).toNat, by omega⟩
  obtain ⟨t, s, o2, e3, b2, T, E3⟩ := tree_spec F d 5 hd (by omega) (by omega) b1
  have dl := T.dp
  have sl := T.ln (by omega)
  obtain ⟨y4, g4, L1⟩ := loop1 (fq := fq) (x0 := some (.val (.rdl (ns.map .int)))) (x1 := some (.val (.int i))) (x2 := some (.own o2)) (x5 := x5) (x6 := x6) (x7 := some (.val (rg s))) (x8 := some (.val (enT t))) (x9 := x9) (x10 := x10) (x11 := x11) (x12 := none) [1, 2, 3, 4, 5] (f := []) (x4 := x4) (by decide) h4
  have rn : rngP 1 6 = [1, 2, 3, 4, 5].map PV.int := rfl
  have L1' : loopM (bndNm 4) (l_law_k12_1 fq) (rngP 1 6) [some (.val (.rdl (ns.map .int))), some (.val (.int i)), some (.own o2), some (.own (.lst [])), x4, x5, x6, some (.val (rg s)), some (.val (enT t)), x9, x10, x11, none, none] = .nx [some (.val (.rdl (ns.map .int))), some (.val (.int i)), some (.own o2), some (.own (.lst (grid.map enc))), y4, x5, x6, some (.val (rg s)), some (.val (enT t)), x9, x10, x11, none, none] := by rw [rn]; exact L1
  have C1 : lcLoop (lcTurn (bndNm 12) (boolM (twoO (slotM 12) (slotM 7) (cmpX fq [⟨"Range", (E_Range___contains__ fq)⟩] .In))) [12] (eltM (e_law_k12_2 fq))) (grid.map enc) [some (.val (.rdl (ns.map .int))), some (.val (.int i)), some (.own o2), some (.val (.lst (grid.map enc))), y4, x5, x6, some (.val (rg s)), some (.val (enT t)), x9, x10, x11, none, none] = .ok ((grid.filter (hasN s)).map enc) [some (.val (.rdl (ns.map .int))), some (.val (.int i)), some (.own o2), some (.val (.lst (grid.map enc))), y4, x5, x6, some (.val (rg s)), some (.val (enT t)), x9, x10, x11, none, none] := by
    rw [← filt]
    refine lcLoop_filterF fun n hn => ?_
    have I := cmpX_in F.g (e := [some (.val (.rdl (ns.map .int))), some (.val (.int i)), some (.own o2), some (.val (.lst (grid.map enc))), y4, x5, x6, some (.val (rg s)), some (.val (enT t)), x9, x10, x11, some (.val (enc n)), none]) (a := .slot 12) (b := .slot 7) (s := s) (n := n) (At.slot rfl) rfl rfl (grid_low hn) (by omega)
    cases hh : hasN s n <;> rw [hh] at I <;> simp [e_law_k12_2, I, hh]
  have gs : (grid.filter (hasN s)).length ≤ 16777216 := by
    have h1 := List.length_filter_le (hasN s) grid
    have h2 : grid.length = 35 := by decide
    omega
  have gl : grid.length ≤ 16777216 := by decide
  generalize hg : grid.filter (hasN s) = g at *
  have C2 : lcLoop (lcTurn (bndNm 12) (truM (opdM (callM (sem__law_is_in 6) 2 sh__law_is_in_0 (opdsCons (opdM (getM 8)) (opdsCons (opdM (getM 12)) opdsNil)) opdsNil))) [12] (eltM (e_law_k12_3 fq))) (grid.map enc) [some (.val (.rdl (ns.map .int))), some (.val (.int i)), some (.own o2), some (.val (.lst (grid.map enc))), y4, some (.own (.lst (g.map enc))), x6, some (.val (rg s)), some (.val (enT t)), x9, x10, x11, none, none] = .ok (g.map enc) [some (.val (.rdl (ns.map .int))), some (.val (.int i)), some (.own o2), some (.val (.lst (grid.map enc))), y4, some (.own (.lst (g.map enc))), x6, some (.val (rg s)), some (.val (enT t)), x9, x10, x11, none, none] := by
    rw [← hg, ← filt]
    refine lcLoop_filterF fun n hn => ?_
    obtain ⟨e4, E4⟩ := isin_eq t 6 (x := n) (by omega) (grid_low hn)
    have hh : hasN s n = tset t n := by
      rw [T.rs.hs, show Tp n = true from decide_eq_true (grid_low hn)]
      rfl
    cases hz : tset t n <;> rw [hz] at E4 hh <;> simp [e_law_k12_3, sh__law_is_in_0, pick, Src.get, E4, hh]
  have N1 : ∀ e : En, e[5]? = some (some (.own (.lst (g.map enc)))) → cmpX fq [⟨"Range", (E_Range___eq__ fq)⟩] .NotEq (.slot 5) (.pv (.lst (g.map enc))) e = .ok (.val (.bl false)) e := fun e he => by
    rw [cmpX_plain (x := .lst (g.map enc)) (y := .lst (g.map enc)) (by simp [he]) rfl rfl rfl, opNe_app, eqP_encs]
    simp
  have N0 : ∀ e : En, e[5]? = some (some (.own (.lst (g.map enc)))) → cmpX fq [⟨"Range", (E_Range___eq__ fq)⟩] .NotEq (.slot 5) (.pv (.lst [])) e = .ok (.val (.bl (!decide (g = [])))) e := fun e he => by
    rw [cmpX_plain (x := .lst (g.map enc)) (y := .lst ([].map enc)) (by simp [he]) rfl rfl rfl, opNe_app, eqP_encs]
  have AL := fun (e : En) (he : e[7]? = some (some (.val (rg s)))) => attr_least F (i := 7) (e := e) (s := s) he
  have lf' := least_found T
  rw [hg] at lf'
  have LN : ∀ e : En, cmpX fq [⟨"Range", (E_Range___eq__ fq)⟩] .NotEq (.pv (lstP s)) (.pv (hdP g)) e = .ok (.val (.bl false)) e := fun e => by
    rw [lf']
    cases g with
    | nil =>
      rw [cmpX_plain (x := .non) (y := .non) rfl rfl rfl rfl, opNe_app]
      rfl
    | cons n g =>
      rw [cmpX_plain (x := enc n) (y := enc n) rfl rfl rfl rfl, opNe_app, eqP_enc]
      simp
  have NO := fun e => nothing_cm (e := e) F.g
  have AS := fun (e : En) (he : e[7]? = some (some (.val (rg s)))) => attrM_at (prs := []) F.g (e := e) (i := 7) (s := s) he rfl
  obtain ⟨b, z9, z10, z11, hb, k9, k10, k11, L4⟩ := loop4 F (s := s) (x0 := some (.val (.rdl (ns.map .int)))) (x1 := some (.val (.int i))) (x2 := some (.own o2)) (x3 := some (.val (.lst (grid.map enc)))) (x4 := y4) (x5 := some (.own (.lst (g.map enc)))) (x8 := some (.val (enT t))) s (a := []) T.rs.tn Rs.nil (by omega) h9 h10 h11
  have eb : b = s := hb.ext T.rs fun x => by
    rw [T.rs.hs]
    simp
  subst eb
  have NE := cmpX_neG F (a := .slot 6) (b := .slot 7) (s := b) (t := b) (e := [some (.val (.rdl (ns.map .int))), some (.val (.int i)), some (.own o2), some (.val (.lst (grid.map enc))), y4, some (.own (.lst (g.map enc))), some (.own (rgO b)), some (.val (rg b)), some (.val (enT t)), z9, z10, z11, none, none]) (e2 := [some (.val (.rdl (ns.map .int))), some (.val (.int i)), some (.own o2), some (.val (.lst (grid.map enc))), y4, some (.own (.lst (g.map enc))), some (.val (rg b)), some (.val (rg b)), some (.val (enT t)), z9, z10, z11, none, none]) ⟨rfl, rfl, _, rfl, rfl⟩
  obtain ⟨z, zo, zr⟩ := repr_st T.rs.tn.sm (by omega)
  have A6 := attrM_at (prs := []) F.g (e := [some (.val (.rdl (ns.map .int))), some (.val (.int i)), some (.own o2), some (.val (.lst (grid.map enc))), y4, some (.own (.lst (g.map enc))), some (.val (rg b)), some (.val (rg b)), some (.val (enT t)), z9, z10, z11, none, none]) (i := 6) (s := b) rfl rfl
  have ZN := fun e => str_ne_self zo (e := e)
  refine ⟨some (.own o2), some (.val (.lst (grid.map enc))), y4, some (.own (.lst (g.map enc))), some (.val (rg b)), some (.val (rg b)), some (.val (enT t)), z9, z10, z11, rfl, rfl, g4, rfl, rfl, rfl, rfl, k9, k10, k11, ?_⟩
  have r16 : rng2 [.int 1, .int 6] = some (rngP 1 6) := rfl
  have IX : ¬ g = [] → ixP (.lst (g.map enc)) (.int 0) = some (hdP g) := fun h => by
    cases g with
    | nil => exact absurd rfl h
    | cons n g => simp [hdP]
  have HN : g = [] → PV.non = hdP g := fun h => by rw [h]; rfl
  have GL : (g.map enc).length ≤ 16777216 := by rw [List.length_map]; exact gs
  generalize hG : g.map enc = G at *
  generalize hR : grid.map enc = R at *
  simp only [decide_true, Bool.not_true] at NE
  have lm : ∀ {xs : List PV}, (MO.lst xs).pv = PV.lst xs := rfl
  by_cases hg0 : g = []
  · have N0' := fun e he => N0 e he
    rw [decide_eq_true hg0] at N0'
    simp [l_law_k12_5, sh__law_box_0, sh__law_take_0, sh__law_tree_0, pick, Src.get, E1, E2, E3, h2, h3, h4, h5, h6, h7, h8, r16, L1', C1, C2, GL, N1, N0', AL, HN hg0, LN, NO, AS, L4, NE, A6, zr, ZN]
  · have N0' := fun e he => N0 e he
    rw [decide_eq_false hg0] at N0'
    simp [l_law_k12_5, sh__law_box_0, sh__law_take_0, sh__law_tree_0, pick, Src.get, E1, E2, E3, h2, h3, h4, h5, h6, h7, h8, r16, L1', C1, C2, GL, N1, N0', AL, IX hg0, LN, NO, AS, L4, NE, A6, zr, ZN]
theorem law_true (F : FqR fq) (ns : List Int) (hl : ns.length ≤ 63) : ∃ e', sem_law_k12 fq [.val (.rdl (ns.map .int))] = .ret (.val (.bl true)) e' := by
  obtain ⟨e', h, _⟩ := loop_inv (b := bndNm 1) (body := l_law_k12_5 fq) (ps := rngP 0 (if (2:Int) < if (ns.length : Int) < 4 then (ns.length : Int) else 4 then if (ns.length : Int) < 4 then (ns.length : Int) else 4 else 2)) (e := [some (.val (.rdl (ns.map .int))), none, none, none, none, none, none, none, none, none, none, none, none, none])
    (I := fun e => ∃ x1 x2 x3 x4 x5 x6 x7 x8 x9 x10 x11, pinO x1 = false ∧ pinO x2 = false ∧ pinO x3 = false ∧ pinO x4 = false ∧ pinO x5 = false ∧ pinO x6 = false ∧ pinO x7 = false ∧ pinO x8 = false ∧ pinO x9 = false ∧ pinO x10 = false ∧ pinO x11 = false ∧ e = [some (.val (.rdl (ns.map .int))), x1, x2, x3, x4, x5, x6, x7, x8, x9, x10, x11, none, none]) (by
      rintro p hp _ ⟨x1, x2, x3, x4, x5, x6, x7, x8, x9, x10, x11, h1, h2, h3, h4, h5, h6, h7, h8, h9, h10, h11, rfl⟩
      obtain ⟨i, hi, _, rfl⟩ := rng_mem hp
      obtain ⟨y2, y3, y4, y5, y6, y7, y8, y9, y10, y11, g2, g3, g4, g5, g6, g7, g8, g9, g10, g11, T⟩ := turn5 F (ns := ns) hi h2 h3 h4 h5 h6 h7 h8 h9 h10 h11
      exact ⟨[some (.val (.rdl (ns.map .int))), some (.val (.int i)), x2, x3, x4, x5, x6, x7, x8, x9, x10, x11, none, none], by simp [h1], _, T, _, _, _, _, _, _, _, _, _, _, _, rfl, g2, g3, g4, g5, g6, g7, g8, g9, g10, g11, rfl⟩) ⟨_, _, _, _, _, _, _, _, _, _, _, rfl, rfl, rfl, rfl, rfl, rfl, rfl, rfl, rfl, rfl, rfl, rfl⟩
  have hr : inR (if (2:Int) < if (ns.length : Int) < 4 then (ns.length : Int) else 4 then if (ns.length : Int) < 4 then (ns.length : Int) else 4 else 2) = true := inR_of (by split <;> omega) (by split <;> omega)
  have L0 : ∀ e : En, e[0]? = some (some (.val (.rdl (ns.map .int)))) → lenX [⟨"Range", E_Range___len__ fq⟩] [.slot 0] e = .ok (.val (.int ns.length)) e := fun e he => by
    rw [lenX_rdl (xs := ns.map .int) (by simp [he]), List.length_map]
  simp [sem_law_k12, m_law_k12, L0, h, hr]
end PG

namespace K12
open PySem L2 QB PG
def top (i : Nat) : Stmt := PySem.Challenge.pw_quietbumps_k12_whole_ranges_told_release.main.body.getD i (.Pass ⟨0, 0, 0, 0⟩)
def mth (i j : Nat) : Stmt := (match top i with
  | .ClassDef _ _ _ b _ _ _ _ _ _ _ => b
  | _ => []).getD j (.Pass ⟨0, 0, 0, 0⟩)
def FQ : List Fq := [.noat "Range" "stretches", .kit (.oc "Range") (.bt "int") false, .kit (.oc "Range") (.bt "bool") false, .kit (.oc "Range") (.bt "str") false, .kit (.oc "Range") (.bt "tuple") false, .kit (.oc "Range") (.bt "list") false, .kit (.oc "Range") (.bt "dict") false, .kit (.bt "NoneType") (.oc "Range") false, .kit (.bt "int") (.oc "Range") false, .kit (.bt "bool") (.oc "Range") false, .kit (.bt "str") (.oc "Range") false, .kit (.bt "tuple") (.oc "Range") false, .kit (.bt "list") (.oc "Range") false, .kit (.bt "dict") (.oc "Range") false, .kit (.oc "Range") (.oc "Range") true, .dun "Range", .nf "Range" (.bt "NoneType"), .nf "Range" (.bt "int"), .nf "Range" (.bt "bool"), .nf "Range" (.bt "str"), .nf "Range" (.bt "tuple"), .nf "Range" (.bt "list"), .nf "Range" (.bt "dict"), .nf "Range" (.oc "Range")]
def BS : Bs := ⟨[("WHOLE", c_WHOLE), ("FIRST", c_FIRST), ("Range", .cls "Range")], ["len", "abs", "int", "isinstance", "bool", "tuple", "all", "any", "sorted", "list", "enumerate", "range", "repr", "max", "min"], FQ⟩
abbrev s__law_box : Stmt := top 27
def cfg__law_box : Cfg := ⟨["_law_script", "_law_k", "_law_cell", "_law_great"], [], false, BS, ⟨[], [], [], []⟩, false⟩
theorem den__law_box : denF cfg__law_box (defScope s__law_box) (defBody s__law_box) = some m__law_box := by kernel_rfl
theorem scN__law_box : FnScope ["_law_script", "_law_k", "_law_cell", "_law_great"] ["_law_script", "_law_k"] (defScope s__law_box) := ⟨rfl, rfl, rfl, by decide +kernel, rfl, by decide +kernel, by decide +kernel⟩
theorem sc__law_box : FnScope cfg__law_box.N ["_law_script", "_law_k"] (defScope s__law_box) := scN__law_box
def d__law_box : DefQ := ⟨"_law_box", defArgs s__law_box, defBody s__law_box, defScope s__law_box, .glo, [], []⟩
abbrev s__law_take : Stmt := top 28
def cfg__law_take : Cfg := ⟨["_law_box_here", "_law_many", "_law_blend", "_law_digit"], [], false, BS, ⟨[], [], [], []⟩, false⟩
theorem den__law_take : denF cfg__law_take (defScope s__law_take) (defBody s__law_take) = some m__law_take := by kernel_rfl
theorem scN__law_take : FnScope ["_law_box_here", "_law_many", "_law_blend", "_law_digit"] ["_law_box_here", "_law_many"] (defScope s__law_take) := ⟨rfl, rfl, rfl, by decide +kernel, rfl, by decide +kernel, by decide +kernel⟩
theorem sc__law_take : FnScope cfg__law_take.N ["_law_box_here", "_law_many"] (defScope s__law_take) := scN__law_take
def d__law_take : DefQ := ⟨"_law_take", defArgs s__law_take, defBody s__law_take, defScope s__law_take, .glo, [], []⟩
abbrev s_is_integer : Stmt := top 7
def cfg_is_integer : Cfg := ⟨["value"], [], false, BS, ⟨[], [], [], []⟩, false⟩
theorem den_is_integer : denF cfg_is_integer (defScope s_is_integer) (defBody s_is_integer) = some (m_is_integer FQ) := by kernel_rfl
theorem scN_is_integer : FnScope ["value"] ["value"] (defScope s_is_integer) := ⟨rfl, rfl, rfl, by decide +kernel, rfl, by decide +kernel, by decide +kernel⟩
theorem sc_is_integer : FnScope cfg_is_integer.N ["value"] (defScope s_is_integer) := scN_is_integer
def d_is_integer : DefQ := ⟨"is_integer", defArgs s_is_integer, defBody s_is_integer, defScope s_is_integer, .glo, [], []⟩
abbrev s_is_release : Stmt := top 10
def cfg_is_release : Cfg := ⟨["value", "number"], [(E_is_integer FQ)], false, BS, ⟨[], [], [], []⟩, false⟩
theorem den_is_release : denF cfg_is_release (defScope s_is_release) (defBody s_is_release) = some (m_is_release FQ) := by kernel_rfl
theorem scN_is_release : FnScope ["value", "number"] ["value"] (defScope s_is_release) := ⟨rfl, rfl, rfl, by decide +kernel, rfl, by decide +kernel, by decide +kernel⟩
theorem sc_is_release : FnScope cfg_is_release.N ["value"] (defScope s_is_release) := scN_is_release
def d_is_release : DefQ := ⟨"is_release", defArgs s_is_release, defBody s_is_release, defScope s_is_release, .glo, [], []⟩
abbrev s_is_stretch : Stmt := top 18
def cfg_is_stretch : Cfg := ⟨["value", "low", "high"], [(E_is_release FQ)], false, BS, ⟨[], [], [], []⟩, false⟩
theorem den_is_stretch : denF cfg_is_stretch (defScope s_is_stretch) (defBody s_is_stretch) = some (m_is_stretch FQ) := by kernel_rfl
theorem scN_is_stretch : FnScope ["value", "low", "high"] ["value"] (defScope s_is_stretch) := ⟨rfl, rfl, rfl, by decide +kernel, rfl, by decide +kernel, by decide +kernel⟩
theorem sc_is_stretch : FnScope cfg_is_stretch.N ["value"] (defScope s_is_stretch) := scN_is_stretch
def d_is_stretch : DefQ := ⟨"is_stretch", defArgs s_is_stretch, defBody s_is_stretch, defScope s_is_stretch, .glo, [], []⟩
abbrev s_is_joined : Stmt := top 21
def cfg_is_joined : Cfg := ⟨["word", "here", "there"], [], false, BS, ⟨[], [], [], []⟩, false⟩
theorem den_is_joined : denF cfg_is_joined (defScope s_is_joined) (defBody s_is_joined) = some m_is_joined := by kernel_rfl
theorem scN_is_joined : FnScope ["word", "here", "there"] ["word", "here", "there"] (defScope s_is_joined) := ⟨rfl, rfl, rfl, by decide +kernel, rfl, by decide +kernel, by decide +kernel⟩
theorem sc_is_joined : FnScope cfg_is_joined.N ["word", "here", "there"] (defScope s_is_joined) := scN_is_joined
def d_is_joined : DefQ := ⟨"is_joined", defArgs s_is_joined, defBody s_is_joined, defScope s_is_joined, .glo, [], []⟩
abbrev s_has : Stmt := top 19
def cfg_has : Cfg := ⟨["stretches", "release", "low", "high"], [], false, BS, ⟨[], [], [], []⟩, false⟩
theorem den_has : denF cfg_has (defScope s_has) (defBody s_has) = some m_has := by kernel_rfl
theorem scN_has : FnScope ["stretches", "release", "low", "high"] ["stretches", "release"] (defScope s_has) := ⟨rfl, rfl, rfl, by decide +kernel, rfl, by decide +kernel, by decide +kernel⟩
theorem sc_has : FnScope cfg_has.N ["stretches", "release"] (defScope s_has) := scN_has
def d_has : DefQ := ⟨"has", defArgs s_has, defBody s_has, defScope s_has, .glo, [], []⟩
abbrev s_bound_number : Stmt := top 13
def cfg_bound_number : Cfg := ⟨["release"], [], false, BS, ⟨[], [], [], []⟩, false⟩
theorem den_bound_number : denF cfg_bound_number (defScope s_bound_number) (defBody s_bound_number) = some m_bound_number := by kernel_rfl
theorem scN_bound_number : FnScope ["release"] ["release"] (defScope s_bound_number) := ⟨rfl, rfl, rfl, by decide +kernel, rfl, by decide +kernel, by decide +kernel⟩
theorem sc_bound_number : FnScope cfg_bound_number.N ["release"] (defScope s_bound_number) := scN_bound_number
def d_bound_number : DefQ := ⟨"bound_number", defArgs s_bound_number, defBody s_bound_number, defScope s_bound_number, .glo, [], []⟩
abbrev s_numbered_bound : Stmt := top 14
def cfg_numbered_bound : Cfg := ⟨["number"], [], false, BS, ⟨[], [], [], []⟩, false⟩
theorem den_numbered_bound : denF cfg_numbered_bound (defScope s_numbered_bound) (defBody s_numbered_bound) = some m_numbered_bound := by kernel_rfl
theorem scN_numbered_bound : FnScope ["number"] ["number"] (defScope s_numbered_bound) := ⟨rfl, rfl, rfl, by decide +kernel, rfl, by decide +kernel, by decide +kernel⟩
theorem sc_numbered_bound : FnScope cfg_numbered_bound.N ["number"] (defScope s_numbered_bound) := scN_numbered_bound
def d_numbered_bound : DefQ := ⟨"numbered_bound", defArgs s_numbered_bound, defBody s_numbered_bound, defScope s_numbered_bound, .glo, [], []⟩
abbrev s_edges : Stmt := top 20
def cfg_edges : Cfg := ⟨["one", "other", "numbers", "pair", "bound", "number"], [E_bound_number, E_numbered_bound], false, BS, ⟨[], [], [], []⟩, false⟩
theorem den_edges : denF cfg_edges (defScope s_edges) (defBody s_edges) = some m_edges := by kernel_rfl
theorem scN_edges : FnScope ["one", "other", "numbers", "pair", "bound", "number"] ["one", "other"] (defScope s_edges) := ⟨rfl, rfl, rfl, by decide +kernel, rfl, by decide +kernel, by decide +kernel⟩
theorem sc_edges : FnScope cfg_edges.N ["one", "other"] (defScope s_edges) := scN_edges
def d_edges : DefQ := ⟨"edges", defArgs s_edges, defBody s_edges, defScope s_edges, .glo, [], []⟩
abbrev s_joined : Stmt := top 22
def cfg_joined : Cfg := ⟨["word", "one", "other", "found", "low", "edge", "is_in"], [E_is_joined, E_has, E_edges], false, BS, ⟨[], [], [], []⟩, false⟩
theorem den_joined : denF cfg_joined (defScope s_joined) (defBody s_joined) = some m_joined := by kernel_rfl
theorem scN_joined : FnScope ["word", "one", "other", "found", "low", "edge", "is_in"] ["word", "one", "other"] (defScope s_joined) := ⟨rfl, rfl, rfl, by decide +kernel, rfl, by decide +kernel, by decide +kernel⟩
theorem sc_joined : FnScope cfg_joined.N ["word", "one", "other"] (defScope s_joined) := scN_joined
def d_joined : DefQ := ⟨"joined", defArgs s_joined, defBody s_joined, defScope s_joined, .glo, [], []⟩
abbrev s_Range___init__ : Stmt := mth 25 0
def cfg_Range___init__ : Cfg := ⟨["self", "stretches", "at", "stretch"], [(E_is_stretch FQ), E_joined], false, BS, ⟨[], [], [], []⟩, false⟩
theorem den_Range___init__ : denF cfg_Range___init__ (defScope s_Range___init__) (defBody s_Range___init__) = some (m_Range___init__ FQ) := by kernel_rfl
theorem scN_Range___init__ : FnScope ["self", "stretches", "at", "stretch"] ["self", "stretches"] (defScope s_Range___init__) := ⟨rfl, rfl, rfl, by decide +kernel, rfl, by decide +kernel, by decide +kernel⟩
theorem sc_Range___init__ : FnScope cfg_Range___init__.N ["self", "stretches"] (defScope s_Range___init__) := scN_Range___init__
def d_Range___init__ : DefQ := ⟨"__init__", defArgs s_Range___init__, defBody s_Range___init__, defScope s_Range___init__, .mk "Range", [(.tup [])], []⟩
abbrev s_Range_every : Stmt := mth 25 1
def cfg_Range_every : Cfg := ⟨["cls"], [], false, BS, ⟨[], [⟨"Range", (E_Range___init__ FQ)⟩], [], []⟩, false⟩
theorem den_Range_every : denF cfg_Range_every (defScope s_Range_every) (defBody s_Range_every) = some (m_Range_every FQ) := by kernel_rfl
theorem scN_Range_every : FnScope ["cls"] ["cls"] (defScope s_Range_every) := ⟨rfl, rfl, rfl, by decide +kernel, rfl, by decide +kernel, by decide +kernel⟩
theorem sc_Range_every : FnScope cfg_Range_every.N ["cls"] (defScope s_Range_every) := scN_Range_every
def d_Range_every : DefQ := ⟨"every", defArgs s_Range_every, defBody s_Range_every, defScope s_Range_every, .cm "Range", [], []⟩
abbrev s_Range_nothing : Stmt := mth 25 2
def cfg_Range_nothing : Cfg := ⟨["cls"], [], false, BS, ⟨[], [⟨"Range", (E_Range___init__ FQ)⟩], [], []⟩, false⟩
theorem den_Range_nothing : denF cfg_Range_nothing (defScope s_Range_nothing) (defBody s_Range_nothing) = some (m_Range_nothing FQ) := by kernel_rfl
theorem scN_Range_nothing : FnScope ["cls"] ["cls"] (defScope s_Range_nothing) := ⟨rfl, rfl, rfl, by decide +kernel, rfl, by decide +kernel, by decide +kernel⟩
theorem sc_Range_nothing : FnScope cfg_Range_nothing.N ["cls"] (defScope s_Range_nothing) := scN_Range_nothing
def d_Range_nothing : DefQ := ⟨"nothing", defArgs s_Range_nothing, defBody s_Range_nothing, defScope s_Range_nothing, .cm "Range", [], []⟩
abbrev s_Range_only : Stmt := mth 25 3
def cfg_Range_only : Cfg := ⟨["cls", "release"], [], false, BS, ⟨[], [⟨"Range", (E_Range___init__ FQ)⟩], [], []⟩, false⟩
theorem den_Range_only : denF cfg_Range_only (defScope s_Range_only) (defBody s_Range_only) = some (m_Range_only FQ) := by kernel_rfl
theorem scN_Range_only : FnScope ["cls", "release"] ["cls", "release"] (defScope s_Range_only) := ⟨rfl, rfl, rfl, by decide +kernel, rfl, by decide +kernel, by decide +kernel⟩
theorem sc_Range_only : FnScope cfg_Range_only.N ["cls", "release"] (defScope s_Range_only) := scN_Range_only
def d_Range_only : DefQ := ⟨"only", defArgs s_Range_only, defBody s_Range_only, defScope s_Range_only, .cm "Range", [], []⟩
abbrev s_Range_series : Stmt := mth 25 4
def cfg_Range_series : Cfg := ⟨["cls", "number"], [], false, BS, ⟨[], [⟨"Range", (E_Range___init__ FQ)⟩], [], []⟩, false⟩
theorem den_Range_series : denF cfg_Range_series (defScope s_Range_series) (defBody s_Range_series) = some (m_Range_series FQ) := by kernel_rfl
theorem scN_Range_series : FnScope ["cls", "number"] ["cls", "number"] (defScope s_Range_series) := ⟨rfl, rfl, rfl, by decide +kernel, rfl, by decide +kernel, by decide +kernel⟩
theorem sc_Range_series : FnScope cfg_Range_series.N ["cls", "number"] (defScope s_Range_series) := scN_Range_series
def d_Range_series : DefQ := ⟨"series", defArgs s_Range_series, defBody s_Range_series, defScope s_Range_series, .cm "Range", [], []⟩
abbrev s_Range_from_on : Stmt := mth 25 5
def cfg_Range_from_on : Cfg := ⟨["cls", "release"], [], false, BS, ⟨[], [⟨"Range", (E_Range___init__ FQ)⟩], [], []⟩, false⟩
theorem den_Range_from_on : denF cfg_Range_from_on (defScope s_Range_from_on) (defBody s_Range_from_on) = some (m_Range_from_on FQ) := by kernel_rfl
theorem scN_Range_from_on : FnScope ["cls", "release"] ["cls", "release"] (defScope s_Range_from_on) := ⟨rfl, rfl, rfl, by decide +kernel, rfl, by decide +kernel, by decide +kernel⟩
theorem sc_Range_from_on : FnScope cfg_Range_from_on.N ["cls", "release"] (defScope s_Range_from_on) := scN_Range_from_on
def d_Range_from_on : DefQ := ⟨"from_on", defArgs s_Range_from_on, defBody s_Range_from_on, defScope s_Range_from_on, .cm "Range", [], []⟩
abbrev s_Range_before : Stmt := mth 25 6
def cfg_Range_before : Cfg := ⟨["cls", "release"], [], false, BS, ⟨[], [⟨"Range", (E_Range___init__ FQ)⟩], [], []⟩, false⟩
theorem den_Range_before : denF cfg_Range_before (defScope s_Range_before) (defBody s_Range_before) = some (m_Range_before FQ) := by kernel_rfl
theorem scN_Range_before : FnScope ["cls", "release"] ["cls", "release"] (defScope s_Range_before) := ⟨rfl, rfl, rfl, by decide +kernel, rfl, by decide +kernel, by decide +kernel⟩
theorem sc_Range_before : FnScope cfg_Range_before.N ["cls", "release"] (defScope s_Range_before) := scN_Range_before
def d_Range_before : DefQ := ⟨"before", defArgs s_Range_before, defBody s_Range_before, defScope s_Range_before, .cm "Range", [], []⟩
abbrev s__law_leaf : Stmt := top 30
def cfg__law_leaf : Cfg := ⟨["_law_box_here", "_law_made", "_law_release", "_law_form"], [E__law_take], false, BS, ⟨[], [], [⟨"Range", (E_Range_every FQ)⟩, ⟨"Range", (E_Range_nothing FQ)⟩, ⟨"Range", (E_Range_only FQ)⟩, ⟨"Range", (E_Range_series FQ)⟩, ⟨"Range", (E_Range_from_on FQ)⟩, ⟨"Range", (E_Range_before FQ)⟩], []⟩, false⟩
theorem den__law_leaf : denF cfg__law_leaf (defScope s__law_leaf) (defBody s__law_leaf) = some (m__law_leaf FQ) := by kernel_rfl
theorem scN__law_leaf : FnScope ["_law_box_here", "_law_made", "_law_release", "_law_form"] ["_law_box_here"] (defScope s__law_leaf) := ⟨rfl, rfl, rfl, by decide +kernel, rfl, by decide +kernel, by decide +kernel⟩
theorem sc__law_leaf : FnScope cfg__law_leaf.N ["_law_box_here"] (defScope s__law_leaf) := scN__law_leaf
def d__law_leaf : DefQ := ⟨"_law_leaf", defArgs s__law_leaf, defBody s__law_leaf, defScope s__law_leaf, .glo, [], []⟩
abbrev s_Range___eq__ : Stmt := mth 25 18
def cfg_Range___eq__ : Cfg := ⟨["self", "other"], [], false, BS, ⟨[], [], [], []⟩, false⟩
theorem den_Range___eq__ : denF cfg_Range___eq__ (defScope s_Range___eq__) (defBody s_Range___eq__) = some (m_Range___eq__ FQ) := by kernel_rfl
theorem scN_Range___eq__ : FnScope ["self", "other"] ["self", "other"] (defScope s_Range___eq__) := ⟨rfl, rfl, rfl, by decide +kernel, rfl, by decide +kernel, by decide +kernel⟩
theorem sc_Range___eq__ : FnScope cfg_Range___eq__.N ["self", "other"] (defScope s_Range___eq__) := scN_Range___eq__
def d_Range___eq__ : DefQ := ⟨"__eq__", defArgs s_Range___eq__, defBody s_Range___eq__, defScope s_Range___eq__, .me "Range", [], []⟩
abbrev s_Range___gt__ : Stmt := mth 25 22
def cfg_Range___gt__ : Cfg := ⟨["self", "other"], [E_joined], false, BS, ⟨[], [], [], []⟩, false⟩
theorem den_Range___gt__ : denF cfg_Range___gt__ (defScope s_Range___gt__) (defBody s_Range___gt__) = some (m_Range___gt__ FQ) := by kernel_rfl
theorem scN_Range___gt__ : FnScope ["self", "other"] ["self", "other"] (defScope s_Range___gt__) := ⟨rfl, rfl, rfl, by decide +kernel, rfl, by decide +kernel, by decide +kernel⟩
theorem sc_Range___gt__ : FnScope cfg_Range___gt__.N ["self", "other"] (defScope s_Range___gt__) := scN_Range___gt__
def d_Range___gt__ : DefQ := ⟨"__gt__", defArgs s_Range___gt__, defBody s_Range___gt__, defScope s_Range___gt__, .me "Range", [], []⟩
abbrev s_Range___sub__ : Stmt := mth 25 11
def cfg_Range___sub__ : Cfg := ⟨["self", "other"], [E_joined], false, BS, ⟨[], [⟨"Range", (E_Range___init__ FQ)⟩], [], []⟩, false⟩
theorem den_Range___sub__ : denF cfg_Range___sub__ (defScope s_Range___sub__) (defBody s_Range___sub__) = some (m_Range___sub__ FQ) := by kernel_rfl
theorem scN_Range___sub__ : FnScope ["self", "other"] ["self", "other"] (defScope s_Range___sub__) := ⟨rfl, rfl, rfl, by decide +kernel, rfl, by decide +kernel, by decide +kernel⟩
theorem sc_Range___sub__ : FnScope cfg_Range___sub__.N ["self", "other"] (defScope s_Range___sub__) := scN_Range___sub__
def d_Range___sub__ : DefQ := ⟨"__sub__", defArgs s_Range___sub__, defBody s_Range___sub__, defScope s_Range___sub__, .me "Range", [], []⟩
abbrev s_Range___invert__ : Stmt := mth 25 13
def cfg_Range___invert__ : Cfg := ⟨["self"], [E_joined], false, BS, ⟨[], [⟨"Range", (E_Range___init__ FQ)⟩], [], []⟩, false⟩
theorem den_Range___invert__ : denF cfg_Range___invert__ (defScope s_Range___invert__) (defBody s_Range___invert__) = some (m_Range___invert__ FQ) := by kernel_rfl
theorem scN_Range___invert__ : FnScope ["self"] ["self"] (defScope s_Range___invert__) := ⟨rfl, rfl, rfl, by decide +kernel, rfl, by decide +kernel, by decide +kernel⟩
theorem sc_Range___invert__ : FnScope cfg_Range___invert__.N ["self"] (defScope s_Range___invert__) := scN_Range___invert__
def d_Range___invert__ : DefQ := ⟨"__invert__", defArgs s_Range___invert__, defBody s_Range___invert__, defScope s_Range___invert__, .me "Range", [], []⟩
abbrev s_Range___lt__ : Stmt := mth 25 20
def cfg_Range___lt__ : Cfg := ⟨["self", "other"], [E_joined], false, BS, ⟨[], [], [], []⟩, false⟩
theorem den_Range___lt__ : denF cfg_Range___lt__ (defScope s_Range___lt__) (defBody s_Range___lt__) = some (m_Range___lt__ FQ) := by kernel_rfl
theorem scN_Range___lt__ : FnScope ["self", "other"] ["self", "other"] (defScope s_Range___lt__) := ⟨rfl, rfl, rfl, by decide +kernel, rfl, by decide +kernel, by decide +kernel⟩
theorem sc_Range___lt__ : FnScope cfg_Range___lt__.N ["self", "other"] (defScope s_Range___lt__) := scN_Range___lt__
def d_Range___lt__ : DefQ := ⟨"__lt__", defArgs s_Range___lt__, defBody s_Range___lt__, defScope s_Range___lt__, .me "Range", [], []⟩
abbrev s_Range___and__ : Stmt := mth 25 9
def cfg_Range___and__ : Cfg := ⟨["self", "other"], [E_joined], false, BS, ⟨[], [⟨"Range", (E_Range___init__ FQ)⟩], [], []⟩, false⟩
theorem den_Range___and__ : denF cfg_Range___and__ (defScope s_Range___and__) (defBody s_Range___and__) = some (m_Range___and__ FQ) := by kernel_rfl
theorem scN_Range___and__ : FnScope ["self", "other"] ["self", "other"] (defScope s_Range___and__) := ⟨rfl, rfl, rfl, by decide +kernel, rfl, by decide +kernel, by decide +kernel⟩
theorem sc_Range___and__ : FnScope cfg_Range___and__.N ["self", "other"] (defScope s_Range___and__) := scN_Range___and__
def d_Range___and__ : DefQ := ⟨"__and__", defArgs s_Range___and__, defBody s_Range___and__, defScope s_Range___and__, .me "Range", [], []⟩
abbrev s_Range___or__ : Stmt := mth 25 10
def cfg_Range___or__ : Cfg := ⟨["self", "other"], [E_joined], false, BS, ⟨[], [⟨"Range", (E_Range___init__ FQ)⟩], [], []⟩, false⟩
theorem den_Range___or__ : denF cfg_Range___or__ (defScope s_Range___or__) (defBody s_Range___or__) = some (m_Range___or__ FQ) := by kernel_rfl
theorem scN_Range___or__ : FnScope ["self", "other"] ["self", "other"] (defScope s_Range___or__) := ⟨rfl, rfl, rfl, by decide +kernel, rfl, by decide +kernel, by decide +kernel⟩
theorem sc_Range___or__ : FnScope cfg_Range___or__.N ["self", "other"] (defScope s_Range___or__) := scN_Range___or__
def d_Range___or__ : DefQ := ⟨"__or__", defArgs s_Range___or__, defBody s_Range___or__, defScope s_Range___or__, .me "Range", [], []⟩
abbrev s_Range___xor__ : Stmt := mth 25 12
def cfg_Range___xor__ : Cfg := ⟨["self", "other"], [E_joined], false, BS, ⟨[], [⟨"Range", (E_Range___init__ FQ)⟩], [], []⟩, false⟩
theorem den_Range___xor__ : denF cfg_Range___xor__ (defScope s_Range___xor__) (defBody s_Range___xor__) = some (m_Range___xor__ FQ) := by kernel_rfl
theorem scN_Range___xor__ : FnScope ["self", "other"] ["self", "other"] (defScope s_Range___xor__) := ⟨rfl, rfl, rfl, by decide +kernel, rfl, by decide +kernel, by decide +kernel⟩
theorem sc_Range___xor__ : FnScope cfg_Range___xor__.N ["self", "other"] (defScope s_Range___xor__) := scN_Range___xor__
def d_Range___xor__ : DefQ := ⟨"__xor__", defArgs s_Range___xor__, defBody s_Range___xor__, defScope s_Range___xor__, .me "Range", [], []⟩
abbrev s__law_tree : Stmt := top 31
def cfg__law_tree (F : FSem) : Cfg := ⟨["_law_box_here", "_law_deep", "_law_form", "_law_one", "_law_here", "_law_other", "_law_there"], [E__law_take, (E__law_leaf FQ), (E__law_tree FQ F)], false, BS, ⟨[⟨"Range", (E_Range___eq__ FQ)⟩, ⟨"Range", (E_Range___gt__ FQ)⟩, ⟨"Range", (E_Range___sub__ FQ)⟩, ⟨"Range", (E_Range___invert__ FQ)⟩, ⟨"Range", (E_Range___lt__ FQ)⟩, ⟨"Range", (E_Range___and__ FQ)⟩, ⟨"Range", (E_Range___or__ FQ)⟩, ⟨"Range", (E_Range___xor__ FQ)⟩], [], [], []⟩, false⟩
theorem den__law_tree (F : FSem) : denF (cfg__law_tree F) (defScope s__law_tree) (defBody s__law_tree) = some (m__law_tree FQ F) := by kernel_rfl
theorem scN__law_tree : FnScope ["_law_box_here", "_law_deep", "_law_form", "_law_one", "_law_here", "_law_other", "_law_there"] ["_law_box_here", "_law_deep"] (defScope s__law_tree) := ⟨rfl, rfl, rfl, by decide +kernel, rfl, by decide +kernel, by decide +kernel⟩
theorem sc__law_tree (F : FSem) : FnScope (cfg__law_tree F).N ["_law_box_here", "_law_deep"] (defScope s__law_tree) := scN__law_tree
def d__law_tree : DefQ := ⟨"_law_tree", defArgs s__law_tree, defBody s__law_tree, defScope s__law_tree, .glo, [], []⟩
abbrev s__law_is_in : Stmt := top 32
def cfg__law_is_in (F : FSem) : Cfg := ⟨["_law_tree_here", "_law_release", "_law_word", "_law_one", "_law_other"], [(E__law_is_in F)], false, BS, ⟨[], [], [], []⟩, false⟩
theorem den__law_is_in (F : FSem) : denF (cfg__law_is_in F) (defScope s__law_is_in) (defBody s__law_is_in) = some (m__law_is_in F) := by kernel_rfl
theorem scN__law_is_in : FnScope ["_law_tree_here", "_law_release", "_law_word", "_law_one", "_law_other"] ["_law_tree_here", "_law_release"] (defScope s__law_is_in) := ⟨rfl, rfl, rfl, by decide +kernel, rfl, by decide +kernel, by decide +kernel⟩
theorem sc__law_is_in (F : FSem) : FnScope (cfg__law_is_in F).N ["_law_tree_here", "_law_release"] (defScope s__law_is_in) := scN__law_is_in
def d__law_is_in : DefQ := ⟨"_law_is_in", defArgs s__law_is_in, defBody s__law_is_in, defScope s__law_is_in, .glo, [], []⟩
abbrev s_Range___contains__ : Stmt := mth 25 14
def cfg_Range___contains__ : Cfg := ⟨["self", "value"], [(E_is_release FQ), E_has], false, BS, ⟨[], [], [], []⟩, false⟩
theorem den_Range___contains__ : denF cfg_Range___contains__ (defScope s_Range___contains__) (defBody s_Range___contains__) = some (m_Range___contains__ FQ) := by kernel_rfl
theorem scN_Range___contains__ : FnScope ["self", "value"] ["self", "value"] (defScope s_Range___contains__) := ⟨rfl, rfl, rfl, by decide +kernel, rfl, by decide +kernel, by decide +kernel⟩
theorem sc_Range___contains__ : FnScope cfg_Range___contains__.N ["self", "value"] (defScope s_Range___contains__) := scN_Range___contains__
def d_Range___contains__ : DefQ := ⟨"__contains__", defArgs s_Range___contains__, defBody s_Range___contains__, defScope s_Range___contains__, .me "Range", [], []⟩
abbrev s_Range___len__ : Stmt := mth 25 15
def cfg_Range___len__ : Cfg := ⟨["self"], [], false, BS, ⟨[], [], [], []⟩, false⟩
theorem den_Range___len__ : denF cfg_Range___len__ (defScope s_Range___len__) (defBody s_Range___len__) = some (m_Range___len__ FQ) := by kernel_rfl
theorem scN_Range___len__ : FnScope ["self"] ["self"] (defScope s_Range___len__) := ⟨rfl, rfl, rfl, by decide +kernel, rfl, by decide +kernel, by decide +kernel⟩
theorem sc_Range___len__ : FnScope cfg_Range___len__.N ["self"] (defScope s_Range___len__) := scN_Range___len__
def d_Range___len__ : DefQ := ⟨"__len__", defArgs s_Range___len__, defBody s_Range___len__, defScope s_Range___len__, .me "Range", [], []⟩
abbrev s_Range_least : Stmt := mth 25 8
def cfg_Range_least : Cfg := ⟨["self"], [], false, BS, ⟨[], [], [], []⟩, false⟩
theorem den_Range_least : denF cfg_Range_least (defScope s_Range_least) (defBody s_Range_least) = some (m_Range_least FQ) := by kernel_rfl
theorem scN_Range_least : FnScope ["self"] ["self"] (defScope s_Range_least) := ⟨rfl, rfl, rfl, by decide +kernel, rfl, by decide +kernel, by decide +kernel⟩
theorem sc_Range_least : FnScope cfg_Range_least.N ["self"] (defScope s_Range_least) := scN_Range_least
def d_Range_least : DefQ := ⟨"least", defArgs s_Range_least, defBody s_Range_least, defScope s_Range_least, .pr "Range", [], []⟩
abbrev s_law_k12 : Stmt := top 33
def cfg_law_k12 : Cfg := ⟨["_law_script", "_law_k", "_law_box_here", "_law_some", "_law_series", "_law_found", "_law_again", "_law_made", "_law_tree_here", "_law_low", "_law_high", "_law_part", "_law_release", "_law_step"], [E__law_box, (E__law_tree FQ (sem__law_tree FQ 5)), E__law_take, (E__law_is_in (sem__law_is_in 6))], true, BS, ⟨[⟨"Range", (E_Range___contains__ FQ)⟩, ⟨"Range", (E_Range___eq__ FQ)⟩, ⟨"Range", (E_Range___sub__ FQ)⟩, ⟨"Range", (E_Range___or__ FQ)⟩, ⟨"Range", (E_Range___len__ FQ)⟩], [], [⟨"Range", (E_Range_nothing FQ)⟩, ⟨"Range", (E_Range_from_on FQ)⟩], [⟨"Range", (E_Range_least FQ)⟩]⟩, false⟩
theorem den_law_k12 : denF cfg_law_k12 (defScope s_law_k12) (defBody s_law_k12) = some (m_law_k12 FQ) := by kernel_rfl
theorem scN_law_k12 : FnScope ["_law_script", "_law_k", "_law_box_here", "_law_some", "_law_series", "_law_found", "_law_again", "_law_made", "_law_tree_here", "_law_low", "_law_high", "_law_part", "_law_release", "_law_step"] ["_law_script"] (defScope s_law_k12) := ⟨rfl, rfl, rfl, by decide +kernel, rfl, by decide +kernel, by decide +kernel⟩
theorem sc_law_k12 : FnScope cfg_law_k12.N ["_law_script"] (defScope s_law_k12) := scN_law_k12
def d_law_k12 : DefQ := ⟨"law", defArgs s_law_k12, defBody s_law_k12, defScope s_law_k12, .glo, [], []⟩
def fn : List DefQ := [d__law_box, d__law_take, d_is_integer, d_is_release, d_is_stretch, d_is_joined, d_has, d_bound_number, d_numbered_bound, d_edges, d_joined, d_Range___init__, d_Range_every, d_Range_nothing, d_Range_only, d_Range_series, d_Range_from_on, d_Range_before, d__law_leaf, d_Range___eq__, d_Range___gt__, d_Range___sub__, d_Range___invert__, d_Range___lt__, d_Range___and__, d_Range___or__, d_Range___xor__, d__law_tree, d__law_is_in, d_Range___contains__, d_Range___len__, d_Range_least, d_law_k12]
section
variable {P : Program} {w : World} {K : PySem.W.Frag} {h : Heap} {mg : Str → Option Value} {base : Heap}
theorem fo__law_box (X : K.In h) (G : h.Ns mainGlobals mg) (c : SaysQ BS fn K) {f : Addr} {fd : FuncData} (F : d__law_box.Is K f fd) : FnR false P w K mg base 1 f fd ["_law_script", "_law_k"] (spF K (caK K) 2 sem__law_box) := by
  refine def_ok (cfg := cfg__law_box) (lvl := 0) F sc__law_box ⟨sc__law_box.nd, ?_, c.base X G, rfl, fun _ => rfl, ?_, ?_, ?_, ?_⟩ den__law_box
  · intro E he; cases he
  · intro e he; cases he
  · intro e he; cases he
  · intro e he; cases he
  · intro e he; cases he
theorem kn__law_box (X : K.In h) (G : h.Ns mainGlobals mg) (c : SaysQ BS fn K) : FnKn false P w K mg base (caK K) 1 E__law_box := by
  obtain ⟨⟨fd, F⟩, hk⟩ := c.def_ 0 (d := d__law_box) rfl
  refine ⟨_, fd, 1, Nat.le_refl _, here_glo X G rfl hk, F.kp, fo__law_box X G c F, fun s hs => ?_⟩
  rcases List.mem_cons.mp hs with rfl | hs
  · exact shape_n F fun _ _ _ _ _ _ us ws h1 h2 => match us, ws, h1, h2 with | [_, _], [], _, _ => rfl
  cases hs
theorem fo__law_take (X : K.In h) (G : h.Ns mainGlobals mg) (c : SaysQ BS fn K) {f : Addr} {fd : FuncData} (F : d__law_take.Is K f fd) : FnR false P w K mg base 1 f fd ["_law_box_here", "_law_many"] (spF K (caK K) 2 sem__law_take) := by
  refine def_ok (cfg := cfg__law_take) (lvl := 0) F sc__law_take ⟨sc__law_take.nd, ?_, c.base X G, rfl, fun _ => rfl, ?_, ?_, ?_, ?_⟩ den__law_take
  · intro E he; cases he
  · intro e he; cases he
  · intro e he; cases he
  · intro e he; cases he
  · intro e he; cases he
theorem kn__law_take (X : K.In h) (G : h.Ns mainGlobals mg) (c : SaysQ BS fn K) : FnKn false P w K mg base (caK K) 1 E__law_take := by
  obtain ⟨⟨fd, F⟩, hk⟩ := c.def_ 1 (d := d__law_take) rfl
  refine ⟨_, fd, 1, Nat.le_refl _, here_glo X G rfl hk, F.kp, fo__law_take X G c F, fun s hs => ?_⟩
  rcases List.mem_cons.mp hs with rfl | hs
  · exact shape_n F fun _ _ _ _ _ _ us ws h1 h2 => match us, ws, h1, h2 with | [_, _], [], _, _ => rfl
  cases hs
theorem fo_is_integer (X : K.In h) (G : h.Ns mainGlobals mg) (c : SaysQ BS fn K) {f : Addr} {fd : FuncData} (F : d_is_integer.Is K f fd) : FnR false P w K mg base 1 f fd ["value"] (spF K (caK K) 1 (sem_is_integer FQ)) := by
  refine def_ok (cfg := cfg_is_integer) (lvl := 0) F sc_is_integer ⟨sc_is_integer.nd, ?_, c.base X G, rfl, fun _ => rfl, ?_, ?_, ?_, ?_⟩ den_is_integer
  · intro E he; cases he
  · intro e he; cases he
  · intro e he; cases he
  · intro e he; cases he
  · intro e he; cases he
theorem kn_is_integer (X : K.In h) (G : h.Ns mainGlobals mg) (c : SaysQ BS fn K) : FnKn false P w K mg base (caK K) 1 (E_is_integer FQ) := by
  obtain ⟨⟨fd, F⟩, hk⟩ := c.def_ 2 (d := d_is_integer) rfl
  refine ⟨_, fd, 1, Nat.le_refl _, here_glo X G rfl hk, F.kp, fo_is_integer X G c F, fun s hs => ?_⟩
  rcases List.mem_cons.mp hs with rfl | hs
  · exact shape_n F fun _ _ _ _ _ _ us ws h1 h2 => match us, ws, h1, h2 with | [_], [], _, _ => rfl
  cases hs
theorem fo_is_release (X : K.In h) (G : h.Ns mainGlobals mg) (c : SaysQ BS fn K) {f : Addr} {fd : FuncData} (F : d_is_release.Is K f fd) : FnR false P w K mg base 2 f fd ["value"] (spF K (caK K) 1 (sem_is_release FQ)) := by
  refine def_ok (cfg := cfg_is_release) (lvl := 1) F sc_is_release ⟨sc_is_release.nd, ?_, c.base X G, rfl, fun _ => rfl, ?_, ?_, ?_, ?_⟩ den_is_release
  · intro E he
    rcases List.mem_cons.mp he with rfl | he
    · exact (kn_is_integer X G c).mono (by omega)
    cases he
  · intro e he; cases he
  · intro e he; cases he
  · intro e he; cases he
  · intro e he; cases he
theorem kn_is_release (X : K.In h) (G : h.Ns mainGlobals mg) (c : SaysQ BS fn K) : FnKn false P w K mg base (caK K) 2 (E_is_release FQ) := by
  obtain ⟨⟨fd, F⟩, hk⟩ := c.def_ 3 (d := d_is_release) rfl
  refine ⟨_, fd, 2, Nat.le_refl _, here_glo X G rfl hk, F.kp, fo_is_release X G c F, fun s hs => ?_⟩
  rcases List.mem_cons.mp hs with rfl | hs
  · exact shape_n F fun _ _ _ _ _ _ us ws h1 h2 => match us, ws, h1, h2 with | [_], [], _, _ => rfl
  rcases List.mem_cons.mp hs with rfl | hs
  · exact shape_n F fun _ _ _ _ _ _ us ws h1 h2 => match us, ws, h1, h2 with | [], [_], _, _ => rfl
  cases hs
theorem fo_is_stretch (X : K.In h) (G : h.Ns mainGlobals mg) (c : SaysQ BS fn K) {f : Addr} {fd : FuncData} (F : d_is_stretch.Is K f fd) : FnR false P w K mg base 3 f fd ["value"] (spF K (caK K) 1 (sem_is_stretch FQ)) := by
  refine def_ok (cfg := cfg_is_stretch) (lvl := 2) F sc_is_stretch ⟨sc_is_stretch.nd, ?_, c.base X G, rfl, fun _ => rfl, ?_, ?_, ?_, ?_⟩ den_is_stretch
  · intro E he
    rcases List.mem_cons.mp he with rfl | he
    · exact (kn_is_release X G c).mono (by omega)
    cases he
  · intro e he; cases he
  · intro e he; cases he
  · intro e he; cases he
  · intro e he; cases he
theorem kn_is_stretch (X : K.In h) (G : h.Ns mainGlobals mg) (c : SaysQ BS fn K) : FnKn false P w K mg base (caK K) 3 (E_is_stretch FQ) := by
  obtain ⟨⟨fd, F⟩, hk⟩ := c.def_ 4 (d := d_is_stretch) rfl
  refine ⟨_, fd, 3, Nat.le_refl _, here_glo X G rfl hk, F.kp, fo_is_stretch X G c F, fun s hs => ?_⟩
  rcases List.mem_cons.mp hs with rfl | hs
  · exact shape_n F fun _ _ _ _ _ _ us ws h1 h2 => match us, ws, h1, h2 with | [_], [], _, _ => rfl
  cases hs
theorem fo_is_joined (X : K.In h) (G : h.Ns mainGlobals mg) (c : SaysQ BS fn K) {f : Addr} {fd : FuncData} (F : d_is_joined.Is K f fd) : FnR false P w K mg base 1 f fd ["word", "here", "there"] (spF K (caK K) 3 sem_is_joined) := by
  refine def_ok (cfg := cfg_is_joined) (lvl := 0) F sc_is_joined ⟨sc_is_joined.nd, ?_, c.base X G, rfl, fun _ => rfl, ?_, ?_, ?_, ?_⟩ den_is_joined
  · intro E he; cases he
  · intro e he; cases he
  · intro e he; cases he
  · intro e he; cases he
  · intro e he; cases he
theorem kn_is_joined (X : K.In h) (G : h.Ns mainGlobals mg) (c : SaysQ BS fn K) : FnKn false P w K mg base (caK K) 1 E_is_joined := by
  obtain ⟨⟨fd, F⟩, hk⟩ := c.def_ 5 (d := d_is_joined) rfl
  refine ⟨_, fd, 1, Nat.le_refl _, here_glo X G rfl hk, F.kp, fo_is_joined X G c F, fun s hs => ?_⟩
  rcases List.mem_cons.mp hs with rfl | hs
  · exact shape_n F fun _ _ _ _ _ _ us ws h1 h2 => match us, ws, h1, h2 with | [_, _, _], [], _, _ => rfl
  cases hs
theorem fo_has (X : K.In h) (G : h.Ns mainGlobals mg) (c : SaysQ BS fn K) {f : Addr} {fd : FuncData} (F : d_has.Is K f fd) : FnR false P w K mg base 1 f fd ["stretches", "release"] (spF K (caK K) 2 sem_has) := by
  refine def_ok (cfg := cfg_has) (lvl := 0) F sc_has ⟨sc_has.nd, ?_, c.base X G, rfl, fun _ => rfl, ?_, ?_, ?_, ?_⟩ den_has
  · intro E he; cases he
  · intro e he; cases he
  · intro e he; cases he
  · intro e he; cases he
  · intro e he; cases he
theorem kn_has (X : K.In h) (G : h.Ns mainGlobals mg) (c : SaysQ BS fn K) : FnKn false P w K mg base (caK K) 1 E_has := by
  obtain ⟨⟨fd, F⟩, hk⟩ := c.def_ 6 (d := d_has) rfl
  refine ⟨_, fd, 1, Nat.le_refl _, here_glo X G rfl hk, F.kp, fo_has X G c F, fun s hs => ?_⟩
  rcases List.mem_cons.mp hs with rfl | hs
  · exact shape_n F fun _ _ _ _ _ _ us ws h1 h2 => match us, ws, h1, h2 with | [_, _], [], _, _ => rfl
  cases hs
theorem fo_bound_number (X : K.In h) (G : h.Ns mainGlobals mg) (c : SaysQ BS fn K) {f : Addr} {fd : FuncData} (F : d_bound_number.Is K f fd) : FnR false P w K mg base 1 f fd ["release"] (spF K (caK K) 1 sem_bound_number) := by
  refine def_ok (cfg := cfg_bound_number) (lvl := 0) F sc_bound_number ⟨sc_bound_number.nd, ?_, c.base X G, rfl, fun _ => rfl, ?_, ?_, ?_, ?_⟩ den_bound_number
  · intro E he; cases he
  · intro e he; cases he
  · intro e he; cases he
  · intro e he; cases he
  · intro e he; cases he
theorem kn_bound_number (X : K.In h) (G : h.Ns mainGlobals mg) (c : SaysQ BS fn K) : FnKn false P w K mg base (caK K) 1 E_bound_number := by
  obtain ⟨⟨fd, F⟩, hk⟩ := c.def_ 7 (d := d_bound_number) rfl
  refine ⟨_, fd, 1, Nat.le_refl _, here_glo X G rfl hk, F.kp, fo_bound_number X G c F, fun s hs => ?_⟩
  rcases List.mem_cons.mp hs with rfl | hs
  · exact shape_n F fun _ _ _ _ _ _ us ws h1 h2 => match us, ws, h1, h2 with | [_], [], _, _ => rfl
  cases hs
theorem fo_numbered_bound (X : K.In h) (G : h.Ns mainGlobals mg) (c : SaysQ BS fn K) {f : Addr} {fd : FuncData} (F : d_numbered_bound.Is K f fd) : FnR false P w K mg base 1 f fd ["number"] (spF K (caK K) 1 sem_numbered_bound) := by
  refine def_ok (cfg := cfg_numbered_bound) (lvl := 0) F sc_numbered_bound ⟨sc_numbered_bound.nd, ?_, c.base X G, rfl, fun _ => rfl, ?_, ?_, ?_, ?_⟩ den_numbered_bound
  · intro E he; cases he
  · intro e he; cases he
  · intro e he; cases he
  · intro e he; cases he
  · intro e he; cases he
theorem kn_numbered_bound (X : K.In h) (G : h.Ns mainGlobals mg) (c : SaysQ BS fn K) : FnKn false P w K mg base (caK K) 1 E_numbered_bound := by
  obtain ⟨⟨fd, F⟩, hk⟩ := c.def_ 8 (d := d_numbered_bound) rfl
  refine ⟨_, fd, 1, Nat.le_refl _, here_glo X G rfl hk, F.kp, fo_numbered_bound X G c F, fun s hs => ?_⟩
  rcases List.mem_cons.mp hs with rfl | hs
  · exact shape_n F fun _ _ _ _ _ _ us ws h1 h2 => match us, ws, h1, h2 with | [_], [], _, _ => rfl
  cases hs
theorem fo_edges (X : K.In h) (G : h.Ns mainGlobals mg) (c : SaysQ BS fn K) {f : Addr} {fd : FuncData} (F : d_edges.Is K f fd) : FnR false P w K mg base 2 f fd ["one", "other"] (spF K (caK K) 2 sem_edges) := by
  refine def_ok (cfg := cfg_edges) (lvl := 1) F sc_edges ⟨sc_edges.nd, ?_, c.base X G, rfl, fun _ => rfl, ?_, ?_, ?_, ?_⟩ den_edges
  · intro E he
    rcases List.mem_cons.mp he with rfl | he
    · exact (kn_bound_number X G c).mono (by omega)
    rcases List.mem_cons.mp he with rfl | he
    · exact (kn_numbered_bound X G c).mono (by omega)
    cases he
  · intro e he; cases he
  · intro e he; cases he
  · intro e he; cases he
  · intro e he; cases he
theorem kn_edges (X : K.In h) (G : h.Ns mainGlobals mg) (c : SaysQ BS fn K) : FnKn false P w K mg base (caK K) 2 E_edges := by
  obtain ⟨⟨fd, F⟩, hk⟩ := c.def_ 9 (d := d_edges) rfl
  refine ⟨_, fd, 2, Nat.le_refl _, here_glo X G rfl hk, F.kp, fo_edges X G c F, fun s hs => ?_⟩
  rcases List.mem_cons.mp hs with rfl | hs
  · exact shape_n F fun _ _ _ _ _ _ us ws h1 h2 => match us, ws, h1, h2 with | [_, _], [], _, _ => rfl
  cases hs
theorem fo_joined (X : K.In h) (G : h.Ns mainGlobals mg) (c : SaysQ BS fn K) {f : Addr} {fd : FuncData} (F : d_joined.Is K f fd) : FnR false P w K mg base 3 f fd ["word", "one", "other"] (spF K (caK K) 3 sem_joined) := by
  refine def_ok (cfg := cfg_joined) (lvl := 2) F sc_joined ⟨sc_joined.nd, ?_, c.base X G, rfl, fun _ => rfl, ?_, ?_, ?_, ?_⟩ den_joined
  · intro E he
    rcases List.mem_cons.mp he with rfl | he
    · exact (kn_is_joined X G c).mono (by omega)
    rcases List.mem_cons.mp he with rfl | he
    · exact (kn_has X G c).mono (by omega)
    rcases List.mem_cons.mp he with rfl | he
    · exact (kn_edges X G c).mono (by omega)
    cases he
  · intro e he; cases he
  · intro e he; cases he
  · intro e he; cases he
  · intro e he; cases he
theorem kn_joined (X : K.In h) (G : h.Ns mainGlobals mg) (c : SaysQ BS fn K) : FnKn false P w K mg base (caK K) 3 E_joined := by
  obtain ⟨⟨fd, F⟩, hk⟩ := c.def_ 10 (d := d_joined) rfl
  refine ⟨_, fd, 3, Nat.le_refl _, here_glo X G rfl hk, F.kp, fo_joined X G c F, fun s hs => ?_⟩
  rcases List.mem_cons.mp hs with rfl | hs
  · exact shape_n F fun _ _ _ _ _ _ us ws h1 h2 => match us, ws, h1, h2 with | [_, _, _], [], _, _ => rfl
  cases hs
theorem fo_Range___init__ (X : K.In h) (G : h.Ns mainGlobals mg) (c : SaysQ BS fn K) {f : Addr} {fd : FuncData} (F : d_Range___init__.Is K f fd) : FnR false P w K mg base 4 f fd ["self", "stretches"] (spF K (caK K) 2 (sem_Range___init__ FQ)) := by
  refine def_ok (cfg := cfg_Range___init__) (lvl := 3) F sc_Range___init__ ⟨sc_Range___init__.nd, ?_, c.base X G, rfl, fun _ => rfl, ?_, ?_, ?_, ?_⟩ den_Range___init__
  · intro E he
    rcases List.mem_cons.mp he with rfl | he
    · exact (kn_is_stretch X G c).mono (by omega)
    rcases List.mem_cons.mp he with rfl | he
    · exact (kn_joined X G c).mono (by omega)
    cases he
  · intro e he; cases he
  · intro e he; cases he
  · intro e he; cases he
  · intro e he; cases he
theorem kn_Range___init__ (X : K.In h) (G : h.Ns mainGlobals mg) (c : SaysQ BS fn K) : MkKn P w K mg base (caK K) 5 ⟨"Range", (E_Range___init__ FQ)⟩ := by
  obtain ⟨⟨fd, F⟩, hk⟩ := c.def_ 11 (d := d_Range___init__) rfl
  refine ⟨_, fd, 4, Nat.le_refl _, here_mk rfl hk, fo_Range___init__ X G c F, fun s hs => ?_⟩
  rcases List.mem_cons.mp hs with rfl | hs
  · exact shape_d (nd := 0) F (dvs_ok _ (and2 hk).1) rfl fun _ _ _ _ _ _ _ us its ws h1 h2 h3 => match us, its, ws, h1, h2, h3 with | [_, _], [_], [], _, _, _ => ⟨_, rfl, rfl⟩
  rcases List.mem_cons.mp hs with rfl | hs
  · exact shape_d (nd := 0) F (dvs_ok _ (and2 hk).1) rfl fun _ _ _ _ _ _ _ us its ws h1 h2 h3 => match us, its, ws, h1, h2, h3 with | [_], [_], [], _, _, _ => ⟨_, rfl, rfl⟩
  rcases List.mem_cons.mp hs with rfl | hs
  · exact shape_d (nd := 0) F (dvs_ok _ (and2 hk).1) rfl fun _ _ _ _ _ _ _ us its ws h1 h2 h3 => match us, its, ws, h1, h2, h3 with | [_], [_], [_], _, _, _ => ⟨_, rfl, rfl⟩
  cases hs
theorem fo_Range_every (X : K.In h) (G : h.Ns mainGlobals mg) (c : SaysQ BS fn K) {f : Addr} {fd : FuncData} (F : d_Range_every.Is K f fd) : FnR false P w K mg base 6 f fd ["cls"] (spF K (caK K) 1 (sem_Range_every FQ)) := by
  refine def_ok (cfg := cfg_Range_every) (lvl := 5) F sc_Range_every ⟨sc_Range_every.nd, ?_, c.base X G, rfl, fun _ => rfl, ?_, ?_, ?_, ?_⟩ den_Range_every
  · intro E he; cases he
  · intro e he; cases he
  · intro e he
    rcases List.mem_cons.mp he with rfl | he
    · exact (kn_Range___init__ X G c).mono (by omega)
    cases he
  · intro e he; cases he
  · intro e he; cases he
theorem kn_Range_every (X : K.In h) (G : h.Ns mainGlobals mg) (c : SaysQ BS fn K) : CmKn P w K mg base (caK K) 7 ⟨"Range", (E_Range_every FQ)⟩ := by
  obtain ⟨⟨fd, F⟩, hk⟩ := c.def_ 12 (d := d_Range_every) rfl
  refine ⟨_, _, fd, 6, Nat.le_refl _, (here_cm rfl hk).1, (here_cm rfl hk).2, fo_Range_every X G c F, fun s hs => ?_⟩
  rcases List.mem_cons.mp hs with rfl | hs
  · exact shape_n F fun _ _ _ _ _ _ us ws h1 h2 => match us, ws, h1, h2 with | [_], [], _, _ => rfl
  cases hs
theorem fo_Range_nothing (X : K.In h) (G : h.Ns mainGlobals mg) (c : SaysQ BS fn K) {f : Addr} {fd : FuncData} (F : d_Range_nothing.Is K f fd) : FnR false P w K mg base 6 f fd ["cls"] (spF K (caK K) 1 (sem_Range_nothing FQ)) := by
  refine def_ok (cfg := cfg_Range_nothing) (lvl := 5) F sc_Range_nothing ⟨sc_Range_nothing.nd, ?_, c.base X G, rfl, fun _ => rfl, ?_, ?_, ?_, ?_⟩ den_Range_nothing
  · intro E he; cases he
  · intro e he; cases he
  · intro e he
    rcases List.mem_cons.mp he with rfl | he
    · exact (kn_Range___init__ X G c).mono (by omega)
    cases he
  · intro e he; cases he
  · intro e he; cases he
theorem kn_Range_nothing (X : K.In h) (G : h.Ns mainGlobals mg) (c : SaysQ BS fn K) : CmKn P w K mg base (caK K) 7 ⟨"Range", (E_Range_nothing FQ)⟩ := by
  obtain ⟨⟨fd, F⟩, hk⟩ := c.def_ 13 (d := d_Range_nothing) rfl
  refine ⟨_, _, fd, 6, Nat.le_refl _, (here_cm rfl hk).1, (here_cm rfl hk).2, fo_Range_nothing X G c F, fun s hs => ?_⟩
  rcases List.mem_cons.mp hs with rfl | hs
  · exact shape_n F fun _ _ _ _ _ _ us ws h1 h2 => match us, ws, h1, h2 with | [_], [], _, _ => rfl
  cases hs
theorem fo_Range_only (X : K.In h) (G : h.Ns mainGlobals mg) (c : SaysQ BS fn K) {f : Addr} {fd : FuncData} (F : d_Range_only.Is K f fd) : FnR false P w K mg base 6 f fd ["cls", "release"] (spF K (caK K) 2 (sem_Range_only FQ)) := by
  refine def_ok (cfg := cfg_Range_only) (lvl := 5) F sc_Range_only ⟨sc_Range_only.nd, ?_, c.base X G, rfl, fun _ => rfl, ?_, ?_, ?_, ?_⟩ den_Range_only
  · intro E he; cases he
  · intro e he; cases he
  · intro e he
    rcases List.mem_cons.mp he with rfl | he
    · exact (kn_Range___init__ X G c).mono (by omega)
    cases he
  · intro e he; cases he
  · intro e he; cases he
theorem kn_Range_only (X : K.In h) (G : h.Ns mainGlobals mg) (c : SaysQ BS fn K) : CmKn P w K mg base (caK K) 7 ⟨"Range", (E_Range_only FQ)⟩ := by
  obtain ⟨⟨fd, F⟩, hk⟩ := c.def_ 14 (d := d_Range_only) rfl
  refine ⟨_, _, fd, 6, Nat.le_refl _, (here_cm rfl hk).1, (here_cm rfl hk).2, fo_Range_only X G c F, fun s hs => ?_⟩
  rcases List.mem_cons.mp hs with rfl | hs
  · exact shape_n F fun _ _ _ _ _ _ us ws h1 h2 => match us, ws, h1, h2 with | [_, _], [], _, _ => rfl
  rcases List.mem_cons.mp hs with rfl | hs
  · exact shape_n F fun _ _ _ _ _ _ us ws h1 h2 => match us, ws, h1, h2 with | [_], [_], _, _ => rfl
  cases hs
theorem fo_Range_series (X : K.In h) (G : h.Ns mainGlobals mg) (c : SaysQ BS fn K) {f : Addr} {fd : FuncData} (F : d_Range_series.Is K f fd) : FnR false P w K mg base 6 f fd ["cls", "number"] (spF K (caK K) 2 (sem_Range_series FQ)) := by
  refine def_ok (cfg := cfg_Range_series) (lvl := 5) F sc_Range_series ⟨sc_Range_series.nd, ?_, c.base X G, rfl, fun _ => rfl, ?_, ?_, ?_, ?_⟩ den_Range_series
  · intro E he; cases he
  · intro e he; cases he
  · intro e he
    rcases List.mem_cons.mp he with rfl | he
    · exact (kn_Range___init__ X G c).mono (by omega)
    cases he
  · intro e he; cases he
  · intro e he; cases he
theorem kn_Range_series (X : K.In h) (G : h.Ns mainGlobals mg) (c : SaysQ BS fn K) : CmKn P w K mg base (caK K) 7 ⟨"Range", (E_Range_series FQ)⟩ := by
  obtain ⟨⟨fd, F⟩, hk⟩ := c.def_ 15 (d := d_Range_series) rfl
  refine ⟨_, _, fd, 6, Nat.le_refl _, (here_cm rfl hk).1, (here_cm rfl hk).2, fo_Range_series X G c F, fun s hs => ?_⟩
  rcases List.mem_cons.mp hs with rfl | hs
  · exact shape_n F fun _ _ _ _ _ _ us ws h1 h2 => match us, ws, h1, h2 with | [_, _], [], _, _ => rfl
  rcases List.mem_cons.mp hs with rfl | hs
  · exact shape_n F fun _ _ _ _ _ _ us ws h1 h2 => match us, ws, h1, h2 with | [_], [_], _, _ => rfl
  cases hs
theorem fo_Range_from_on (X : K.In h) (G : h.Ns mainGlobals mg) (c : SaysQ BS fn K) {f : Addr} {fd : FuncData} (F : d_Range_from_on.Is K f fd) : FnR false P w K mg base 6 f fd ["cls", "release"] (spF K (caK K) 2 (sem_Range_from_on FQ)) := by
  refine def_ok (cfg := cfg_Range_from_on) (lvl := 5) F sc_Range_from_on ⟨sc_Range_from_on.nd, ?_, c.base X G, rfl, fun _ => rfl, ?_, ?_, ?_, ?_⟩ den_Range_from_on
  · intro E he; cases he
  · intro e he; cases he
  · intro e he
    rcases List.mem_cons.mp he with rfl | he
    · exact (kn_Range___init__ X G c).mono (by omega)
    cases he
  · intro e he; cases he
  · intro e he; cases he
theorem kn_Range_from_on (X : K.In h) (G : h.Ns mainGlobals mg) (c : SaysQ BS fn K) : CmKn P w K mg base (caK K) 7 ⟨"Range", (E_Range_from_on FQ)⟩ := by
  obtain ⟨⟨fd, F⟩, hk⟩ := c.def_ 16 (d := d_Range_from_on) rfl
  refine ⟨_, _, fd, 6, Nat.le_refl _, (here_cm rfl hk).1, (here_cm rfl hk).2, fo_Range_from_on X G c F, fun s hs => ?_⟩
  rcases List.mem_cons.mp hs with rfl | hs
  · exact shape_n F fun _ _ _ _ _ _ us ws h1 h2 => match us, ws, h1, h2 with | [_, _], [], _, _ => rfl
  rcases List.mem_cons.mp hs with rfl | hs
  · exact shape_n F fun _ _ _ _ _ _ us ws h1 h2 => match us, ws, h1, h2 with | [_], [_], _, _ => rfl
  cases hs
theorem fo_Range_before (X : K.In h) (G : h.Ns mainGlobals mg) (c : SaysQ BS fn K) {f : Addr} {fd : FuncData} (F : d_Range_before.Is K f fd) : FnR false P w K mg base 6 f fd ["cls", "release"] (spF K (caK K) 2 (sem_Range_before FQ)) := by
  refine def_ok (cfg := cfg_Range_before) (lvl := 5) F sc_Range_before ⟨sc_Range_before.nd, ?_, c.base X G, rfl, fun _ => rfl, ?_, ?_, ?_, ?_⟩ den_Range_before
  · intro E he; cases he
  · intro e he; cases he
  · intro e he
    rcases List.mem_cons.mp he with rfl | he
    · exact (kn_Range___init__ X G c).mono (by omega)
    cases he
  · intro e he; cases he
  · intro e he; cases he
theorem kn_Range_before (X : K.In h) (G : h.Ns mainGlobals mg) (c : SaysQ BS fn K) : CmKn P w K mg base (caK K) 7 ⟨"Range", (E_Range_before FQ)⟩ := by
  obtain ⟨⟨fd, F⟩, hk⟩ := c.def_ 17 (d := d_Range_before) rfl
  refine ⟨_, _, fd, 6, Nat.le_refl _, (here_cm rfl hk).1, (here_cm rfl hk).2, fo_Range_before X G c F, fun s hs => ?_⟩
  rcases List.mem_cons.mp hs with rfl | hs
  · exact shape_n F fun _ _ _ _ _ _ us ws h1 h2 => match us, ws, h1, h2 with | [_, _], [], _, _ => rfl
  rcases List.mem_cons.mp hs with rfl | hs
  · exact shape_n F fun _ _ _ _ _ _ us ws h1 h2 => match us, ws, h1, h2 with | [_], [_], _, _ => rfl
  cases hs
theorem fo__law_leaf (X : K.In h) (G : h.Ns mainGlobals mg) (c : SaysQ BS fn K) {f : Addr} {fd : FuncData} (F : d__law_leaf.Is K f fd) : FnR false P w K mg base 8 f fd ["_law_box_here"] (spF K (caK K) 1 (sem__law_leaf FQ)) := by
  refine def_ok (cfg := cfg__law_leaf) (lvl := 7) F sc__law_leaf ⟨sc__law_leaf.nd, ?_, c.base X G, rfl, fun _ => rfl, ?_, ?_, ?_, ?_⟩ den__law_leaf
  · intro E he
    rcases List.mem_cons.mp he with rfl | he
    · exact (kn__law_take X G c).mono (by omega)
    cases he
  · intro e he; cases he
  · intro e he; cases he
  · intro e he
    rcases List.mem_cons.mp he with rfl | he
    · exact (kn_Range_every X G c).mono (by omega)
    rcases List.mem_cons.mp he with rfl | he
    · exact (kn_Range_nothing X G c).mono (by omega)
    rcases List.mem_cons.mp he with rfl | he
    · exact (kn_Range_only X G c).mono (by omega)
    rcases List.mem_cons.mp he with rfl | he
    · exact (kn_Range_series X G c).mono (by omega)
    rcases List.mem_cons.mp he with rfl | he
    · exact (kn_Range_from_on X G c).mono (by omega)
    rcases List.mem_cons.mp he with rfl | he
    · exact (kn_Range_before X G c).mono (by omega)
    cases he
  · intro e he; cases he
theorem kn__law_leaf (X : K.In h) (G : h.Ns mainGlobals mg) (c : SaysQ BS fn K) : FnKn false P w K mg base (caK K) 8 (E__law_leaf FQ) := by
  obtain ⟨⟨fd, F⟩, hk⟩ := c.def_ 18 (d := d__law_leaf) rfl
  refine ⟨_, fd, 8, Nat.le_refl _, here_glo X G rfl hk, F.kp, fo__law_leaf X G c F, fun s hs => ?_⟩
  rcases List.mem_cons.mp hs with rfl | hs
  · exact shape_n F fun _ _ _ _ _ _ us ws h1 h2 => match us, ws, h1, h2 with | [_], [], _, _ => rfl
  cases hs
theorem fo_Range___eq__ (X : K.In h) (G : h.Ns mainGlobals mg) (c : SaysQ BS fn K) {f : Addr} {fd : FuncData} (F : d_Range___eq__.Is K f fd) : FnR false P w K mg base 1 f fd ["self", "other"] (spF K (caK K) 2 (sem_Range___eq__ FQ)) := by
  refine def_ok (cfg := cfg_Range___eq__) (lvl := 0) F sc_Range___eq__ ⟨sc_Range___eq__.nd, ?_, c.base X G, rfl, fun _ => rfl, ?_, ?_, ?_, ?_⟩ den_Range___eq__
  · intro E he; cases he
  · intro e he; cases he
  · intro e he; cases he
  · intro e he; cases he
  · intro e he; cases he
theorem kn_Range___eq__ (X : K.In h) (G : h.Ns mainGlobals mg) (c : SaysQ BS fn K) : MeKn P w K mg base (caK K) 3 ⟨"Range", (E_Range___eq__ FQ)⟩ := by
  obtain ⟨⟨fd, F⟩, hk⟩ := c.def_ 19 (d := d_Range___eq__) rfl
  refine ⟨_, fd, 1, Nat.le_refl _, (here_me rfl hk F).1, (here_me rfl hk F).2, fo_Range___eq__ X G c F, fun s hs => ?_⟩
  rcases List.mem_cons.mp hs with rfl | hs
  · exact shape_n F fun _ _ _ _ _ _ us ws h1 h2 => match us, ws, h1, h2 with | [_, _], [], _, _ => rfl
  cases hs
theorem fo_Range___gt__ (X : K.In h) (G : h.Ns mainGlobals mg) (c : SaysQ BS fn K) {f : Addr} {fd : FuncData} (F : d_Range___gt__.Is K f fd) : FnR false P w K mg base 4 f fd ["self", "other"] (spF K (caK K) 2 (sem_Range___gt__ FQ)) := by
  refine def_ok (cfg := cfg_Range___gt__) (lvl := 3) F sc_Range___gt__ ⟨sc_Range___gt__.nd, ?_, c.base X G, rfl, fun _ => rfl, ?_, ?_, ?_, ?_⟩ den_Range___gt__
  · intro E he
    rcases List.mem_cons.mp he with rfl | he
    · exact (kn_joined X G c).mono (by omega)
    cases he
  · intro e he; cases he
  · intro e he; cases he
  · intro e he; cases he
  · intro e he; cases he
theorem kn_Range___gt__ (X : K.In h) (G : h.Ns mainGlobals mg) (c : SaysQ BS fn K) : MeKn P w K mg base (caK K) 6 ⟨"Range", (E_Range___gt__ FQ)⟩ := by
  obtain ⟨⟨fd, F⟩, hk⟩ := c.def_ 20 (d := d_Range___gt__) rfl
  refine ⟨_, fd, 4, Nat.le_refl _, (here_me rfl hk F).1, (here_me rfl hk F).2, fo_Range___gt__ X G c F, fun s hs => ?_⟩
  rcases List.mem_cons.mp hs with rfl | hs
  · exact shape_n F fun _ _ _ _ _ _ us ws h1 h2 => match us, ws, h1, h2 with | [_, _], [], _, _ => rfl
  cases hs
theorem fo_Range___sub__ (X : K.In h) (G : h.Ns mainGlobals mg) (c : SaysQ BS fn K) {f : Addr} {fd : FuncData} (F : d_Range___sub__.Is K f fd) : FnR false P w K mg base 6 f fd ["self", "other"] (spF K (caK K) 2 (sem_Range___sub__ FQ)) := by
  refine def_ok (cfg := cfg_Range___sub__) (lvl := 5) F sc_Range___sub__ ⟨sc_Range___sub__.nd, ?_, c.base X G, rfl, fun _ => rfl, ?_, ?_, ?_, ?_⟩ den_Range___sub__
  · intro E he
    rcases List.mem_cons.mp he with rfl | he
    · exact (kn_joined X G c).mono (by omega)
    cases he
  · intro e he; cases he
  · intro e he
    rcases List.mem_cons.mp he with rfl | he
    · exact (kn_Range___init__ X G c).mono (by omega)
    cases he
  · intro e he; cases he
  · intro e he; cases he
theorem kn_Range___sub__ (X : K.In h) (G : h.Ns mainGlobals mg) (c : SaysQ BS fn K) : MeKn P w K mg base (caK K) 8 ⟨"Range", (E_Range___sub__ FQ)⟩ := by
  obtain ⟨⟨fd, F⟩, hk⟩ := c.def_ 21 (d := d_Range___sub__) rfl
  refine ⟨_, fd, 6, Nat.le_refl _, (here_me rfl hk F).1, (here_me rfl hk F).2, fo_Range___sub__ X G c F, fun s hs => ?_⟩
  rcases List.mem_cons.mp hs with rfl | hs
  · exact shape_n F fun _ _ _ _ _ _ us ws h1 h2 => match us, ws, h1, h2 with | [_, _], [], _, _ => rfl
  cases hs
theorem fo_Range___invert__ (X : K.In h) (G : h.Ns mainGlobals mg) (c : SaysQ BS fn K) {f : Addr} {fd : FuncData} (F : d_Range___invert__.Is K f fd) : FnR false P w K mg base 6 f fd ["self"] (spF K (caK K) 1 (sem_Range___invert__ FQ)) := by
  refine def_ok (cfg := cfg_Range___invert__) (lvl := 5) F sc_Range___invert__ ⟨sc_Range___invert__.nd, ?_, c.base X G, rfl, fun _ => rfl, ?_, ?_, ?_, ?_⟩ den_Range___invert__
  · intro E he
    rcases List.mem_cons.mp he with rfl | he
    · exact (kn_joined X G c).mono (by omega)
    cases he
  · intro e he; cases he
  · intro e he
    rcases List.mem_cons.mp he with rfl | he
    · exact (kn_Range___init__ X G c).mono (by omega)
    cases he
  · intro e he; cases he
  · intro e he; cases he
theorem kn_Range___invert__ (X : K.In h) (G : h.Ns mainGlobals mg) (c : SaysQ BS fn K) : MeKn P w K mg base (caK K) 8 ⟨"Range", (E_Range___invert__ FQ)⟩ := by
  obtain ⟨⟨fd, F⟩, hk⟩ := c.def_ 22 (d := d_Range___invert__) rfl
  refine ⟨_, fd, 6, Nat.le_refl _, (here_me rfl hk F).1, (here_me rfl hk F).2, fo_Range___invert__ X G c F, fun s hs => ?_⟩
  rcases List.mem_cons.mp hs with rfl | hs
  · exact shape_n F fun _ _ _ _ _ _ us ws h1 h2 => match us, ws, h1, h2 with | [_], [], _, _ => rfl
  cases hs
theorem fo_Range___lt__ (X : K.In h) (G : h.Ns mainGlobals mg) (c : SaysQ BS fn K) {f : Addr} {fd : FuncData} (F : d_Range___lt__.Is K f fd) : FnR false P w K mg base 4 f fd ["self", "other"] (spF K (caK K) 2 (sem_Range___lt__ FQ)) := by
  refine def_ok (cfg := cfg_Range___lt__) (lvl := 3) F sc_Range___lt__ ⟨sc_Range___lt__.nd, ?_, c.base X G, rfl, fun _ => rfl, ?_, ?_, ?_, ?_⟩ den_Range___lt__
  · intro E he
    rcases List.mem_cons.mp he with rfl | he
    · exact (kn_joined X G c).mono (by omega)
    cases he
  · intro e he; cases he
  · intro e he; cases he
  · intro e he; cases he
  · intro e he; cases he
theorem kn_Range___lt__ (X : K.In h) (G : h.Ns mainGlobals mg) (c : SaysQ BS fn K) : MeKn P w K mg base (caK K) 6 ⟨"Range", (E_Range___lt__ FQ)⟩ := by
  obtain ⟨⟨fd, F⟩, hk⟩ := c.def_ 23 (d := d_Range___lt__) rfl
  refine ⟨_, fd, 4, Nat.le_refl _, (here_me rfl hk F).1, (here_me rfl hk F).2, fo_Range___lt__ X G c F, fun s hs => ?_⟩
  rcases List.mem_cons.mp hs with rfl | hs
  · exact shape_n F fun _ _ _ _ _ _ us ws h1 h2 => match us, ws, h1, h2 with | [_, _], [], _, _ => rfl
  cases hs
theorem fo_Range___and__ (X : K.In h) (G : h.Ns mainGlobals mg) (c : SaysQ BS fn K) {f : Addr} {fd : FuncData} (F : d_Range___and__.Is K f fd) : FnR false P w K mg base 6 f fd ["self", "other"] (spF K (caK K) 2 (sem_Range___and__ FQ)) := by
  refine def_ok (cfg := cfg_Range___and__) (lvl := 5) F sc_Range___and__ ⟨sc_Range___and__.nd, ?_, c.base X G, rfl, fun _ => rfl, ?_, ?_, ?_, ?_⟩ den_Range___and__
  · intro E he
    rcases List.mem_cons.mp he with rfl | he
    · exact (kn_joined X G c).mono (by omega)
    cases he
  · intro e he; cases he
  · intro e he
    rcases List.mem_cons.mp he with rfl | he
    · exact (kn_Range___init__ X G c).mono (by omega)
    cases he
  · intro e he; cases he
  · intro e he; cases he
theorem kn_Range___and__ (X : K.In h) (G : h.Ns mainGlobals mg) (c : SaysQ BS fn K) : MeKn P w K mg base (caK K) 8 ⟨"Range", (E_Range___and__ FQ)⟩ := by
  obtain ⟨⟨fd, F⟩, hk⟩ := c.def_ 24 (d := d_Range___and__) rfl
  refine ⟨_, fd, 6, Nat.le_refl _, (here_me rfl hk F).1, (here_me rfl hk F).2, fo_Range___and__ X G c F, fun s hs => ?_⟩
  rcases List.mem_cons.mp hs with rfl | hs
  · exact shape_n F fun _ _ _ _ _ _ us ws h1 h2 => match us, ws, h1, h2 with | [_, _], [], _, _ => rfl
  cases hs
theorem fo_Range___or__ (X : K.In h) (G : h.Ns mainGlobals mg) (c : SaysQ BS fn K) {f : Addr} {fd : FuncData} (F : d_Range___or__.Is K f fd) : FnR false P w K mg base 6 f fd ["self", "other"] (spF K (caK K) 2 (sem_Range___or__ FQ)) := by
  refine def_ok (cfg := cfg_Range___or__) (lvl := 5) F sc_Range___or__ ⟨sc_Range___or__.nd, ?_, c.base X G, rfl, fun _ => rfl, ?_, ?_, ?_, ?_⟩ den_Range___or__
  · intro E he
    rcases List.mem_cons.mp he with rfl | he
    · exact (kn_joined X G c).mono (by omega)
    cases he
  · intro e he; cases he
  · intro e he
    rcases List.mem_cons.mp he with rfl | he
    · exact (kn_Range___init__ X G c).mono (by omega)
    cases he
  · intro e he; cases he
  · intro e he; cases he
theorem kn_Range___or__ (X : K.In h) (G : h.Ns mainGlobals mg) (c : SaysQ BS fn K) : MeKn P w K mg base (caK K) 8 ⟨"Range", (E_Range___or__ FQ)⟩ := by
  obtain ⟨⟨fd, F⟩, hk⟩ := c.def_ 25 (d := d_Range___or__) rfl
  refine ⟨_, fd, 6, Nat.le_refl _, (here_me rfl hk F).1, (here_me rfl hk F).2, fo_Range___or__ X G c F, fun s hs => ?_⟩
  rcases List.mem_cons.mp hs with rfl | hs
  · exact shape_n F fun _ _ _ _ _ _ us ws h1 h2 => match us, ws, h1, h2 with | [_, _], [], _, _ => rfl
  cases hs
theorem fo_Range___xor__ (X : K.In h) (G : h.Ns mainGlobals mg) (c : SaysQ BS fn K) {f : Addr} {fd : FuncData} (F : d_Range___xor__.Is K f fd) : FnR false P w K mg base 6 f fd ["self", "other"] (spF K (caK K) 2 (sem_Range___xor__ FQ)) := by
  refine def_ok (cfg := cfg_Range___xor__) (lvl := 5) F sc_Range___xor__ ⟨sc_Range___xor__.nd, ?_, c.base X G, rfl, fun _ => rfl, ?_, ?_, ?_, ?_⟩ den_Range___xor__
  · intro E he
    rcases List.mem_cons.mp he with rfl | he
    · exact (kn_joined X G c).mono (by omega)
    cases he
  · intro e he; cases he
  · intro e he
    rcases List.mem_cons.mp he with rfl | he
    · exact (kn_Range___init__ X G c).mono (by omega)
    cases he
  · intro e he; cases he
  · intro e he; cases he
theorem kn_Range___xor__ (X : K.In h) (G : h.Ns mainGlobals mg) (c : SaysQ BS fn K) : MeKn P w K mg base (caK K) 8 ⟨"Range", (E_Range___xor__ FQ)⟩ := by
  obtain ⟨⟨fd, F⟩, hk⟩ := c.def_ 26 (d := d_Range___xor__) rfl
  refine ⟨_, fd, 6, Nat.le_refl _, (here_me rfl hk F).1, (here_me rfl hk F).2, fo_Range___xor__ X G c F, fun s hs => ?_⟩
  rcases List.mem_cons.mp hs with rfl | hs
  · exact shape_n F fun _ _ _ _ _ _ us ws h1 h2 => match us, ws, h1, h2 with | [_, _], [], _, _ => rfl
  cases hs
theorem fo__law_tree (X : K.In h) (G : h.Ns mainGlobals mg) (c : SaysQ BS fn K) {f : Addr} {fd : FuncData} (F : d__law_tree.Is K f fd) (hm : mg "_law_tree" = some (.ref f)) (hk : d__law_tree.here K = true) : ∀ n : Nat, FnR false P w K mg base (8 + n) f fd ["_law_box_here", "_law_deep"] (spF K (caK K) 2 (sem__law_tree FQ n))
  | 0 => FnR.none fun vs H Q E => badF_sp vs H Q E
  | n + 1 => by
    refine def_ok (cfg := cfg__law_tree (sem__law_tree FQ n)) (lvl := 8 + n) F (sc__law_tree (sem__law_tree FQ n)) ⟨(sc__law_tree (sem__law_tree FQ n)).nd, ?_, c.base X G, rfl, fun _ => rfl, ?_, ?_, ?_, ?_⟩ (den__law_tree (sem__law_tree FQ n))
    · intro E he
      rcases List.mem_cons.mp he with rfl | he
      · exact (kn__law_take X G c).mono (by omega)
      rcases List.mem_cons.mp he with rfl | he
      · exact (kn__law_leaf X G c).mono (by omega)
      rcases List.mem_cons.mp he with rfl | he
      · refine ⟨f, fd, 8 + n, Nat.le_refl _, hm, F.kp, fo__law_tree X G c F hm hk n, fun s hs => ?_⟩
        rcases List.mem_cons.mp hs with rfl | hs
        · exact shape_n F fun _ _ _ _ _ _ us ws h1 h2 => match us, ws, h1, h2 with | [_, _], [], _, _ => rfl
        cases hs
      cases he
    · intro e he
      rcases List.mem_cons.mp he with rfl | he
      · exact (kn_Range___eq__ X G c).mono (by omega)
      rcases List.mem_cons.mp he with rfl | he
      · exact (kn_Range___gt__ X G c).mono (by omega)
      rcases List.mem_cons.mp he with rfl | he
      · exact (kn_Range___sub__ X G c).mono (by omega)
      rcases List.mem_cons.mp he with rfl | he
      · exact (kn_Range___invert__ X G c).mono (by omega)
      rcases List.mem_cons.mp he with rfl | he
      · exact (kn_Range___lt__ X G c).mono (by omega)
      rcases List.mem_cons.mp he with rfl | he
      · exact (kn_Range___and__ X G c).mono (by omega)
      rcases List.mem_cons.mp he with rfl | he
      · exact (kn_Range___or__ X G c).mono (by omega)
      rcases List.mem_cons.mp he with rfl | he
      · exact (kn_Range___xor__ X G c).mono (by omega)
      cases he
    · intro e he; cases he
    · intro e he; cases he
    · intro e he; cases he
theorem kn__law_tree (X : K.In h) (G : h.Ns mainGlobals mg) (c : SaysQ BS fn K) : FnKn false P w K mg base (caK K) 13 (E__law_tree FQ (sem__law_tree FQ 5)) := by
  obtain ⟨⟨fd, F⟩, hk⟩ := c.def_ 27 (d := d__law_tree) rfl
  refine ⟨_, fd, 13, Nat.le_refl _, here_glo X G rfl hk, F.kp, (fo__law_tree X G c F (here_glo X G rfl hk) hk 5), fun s hs => ?_⟩
  rcases List.mem_cons.mp hs with rfl | hs
  · exact shape_n F fun _ _ _ _ _ _ us ws h1 h2 => match us, ws, h1, h2 with | [_, _], [], _, _ => rfl
  cases hs
theorem fo__law_is_in (X : K.In h) (G : h.Ns mainGlobals mg) (c : SaysQ BS fn K) {f : Addr} {fd : FuncData} (F : d__law_is_in.Is K f fd) (hm : mg "_law_is_in" = some (.ref f)) (hk : d__law_is_in.here K = true) : ∀ n : Nat, FnR false P w K mg base (0 + n) f fd ["_law_tree_here", "_law_release"] (spF K (caK K) 2 (sem__law_is_in n))
  | 0 => FnR.none fun vs H Q E => badF_sp vs H Q E
  | n + 1 => by
    refine def_ok (cfg := cfg__law_is_in (sem__law_is_in n)) (lvl := 0 + n) F (sc__law_is_in (sem__law_is_in n)) ⟨(sc__law_is_in (sem__law_is_in n)).nd, ?_, c.base X G, rfl, fun _ => rfl, ?_, ?_, ?_, ?_⟩ (den__law_is_in (sem__law_is_in n))
    · intro E he
      rcases List.mem_cons.mp he with rfl | he
      · refine ⟨f, fd, 0 + n, Nat.le_refl _, hm, F.kp, fo__law_is_in X G c F hm hk n, fun s hs => ?_⟩
        rcases List.mem_cons.mp hs with rfl | hs
        · exact shape_n F fun _ _ _ _ _ _ us ws h1 h2 => match us, ws, h1, h2 with | [_, _], [], _, _ => rfl
        cases hs
      cases he
    · intro e he; cases he
    · intro e he; cases he
    · intro e he; cases he
    · intro e he; cases he
theorem kn__law_is_in (X : K.In h) (G : h.Ns mainGlobals mg) (c : SaysQ BS fn K) : FnKn false P w K mg base (caK K) 6 (E__law_is_in (sem__law_is_in 6)) := by
  obtain ⟨⟨fd, F⟩, hk⟩ := c.def_ 28 (d := d__law_is_in) rfl
  refine ⟨_, fd, 6, Nat.le_refl _, here_glo X G rfl hk, F.kp, (fo__law_is_in X G c F (here_glo X G rfl hk) hk 6), fun s hs => ?_⟩
  rcases List.mem_cons.mp hs with rfl | hs
  · exact shape_n F fun _ _ _ _ _ _ us ws h1 h2 => match us, ws, h1, h2 with | [_, _], [], _, _ => rfl
  cases hs
theorem fo_Range___contains__ (X : K.In h) (G : h.Ns mainGlobals mg) (c : SaysQ BS fn K) {f : Addr} {fd : FuncData} (F : d_Range___contains__.Is K f fd) : FnR false P w K mg base 3 f fd ["self", "value"] (spF K (caK K) 2 (sem_Range___contains__ FQ)) := by
  refine def_ok (cfg := cfg_Range___contains__) (lvl := 2) F sc_Range___contains__ ⟨sc_Range___contains__.nd, ?_, c.base X G, rfl, fun _ => rfl, ?_, ?_, ?_, ?_⟩ den_Range___contains__
  · intro E he
    rcases List.mem_cons.mp he with rfl | he
    · exact (kn_is_release X G c).mono (by omega)
    rcases List.mem_cons.mp he with rfl | he
    · exact (kn_has X G c).mono (by omega)
    cases he
  · intro e he; cases he
  · intro e he; cases he
  · intro e he; cases he
  · intro e he; cases he
theorem kn_Range___contains__ (X : K.In h) (G : h.Ns mainGlobals mg) (c : SaysQ BS fn K) : MeKn P w K mg base (caK K) 5 ⟨"Range", (E_Range___contains__ FQ)⟩ := by
  obtain ⟨⟨fd, F⟩, hk⟩ := c.def_ 29 (d := d_Range___contains__) rfl
  refine ⟨_, fd, 3, Nat.le_refl _, (here_me rfl hk F).1, (here_me rfl hk F).2, fo_Range___contains__ X G c F, fun s hs => ?_⟩
  rcases List.mem_cons.mp hs with rfl | hs
  · exact shape_n F fun _ _ _ _ _ _ us ws h1 h2 => match us, ws, h1, h2 with | [_, _], [], _, _ => rfl
  cases hs
theorem fo_Range___len__ (X : K.In h) (G : h.Ns mainGlobals mg) (c : SaysQ BS fn K) {f : Addr} {fd : FuncData} (F : d_Range___len__.Is K f fd) : FnR false P w K mg base 1 f fd ["self"] (spF K (caK K) 1 (sem_Range___len__ FQ)) := by
  refine def_ok (cfg := cfg_Range___len__) (lvl := 0) F sc_Range___len__ ⟨sc_Range___len__.nd, ?_, c.base X G, rfl, fun _ => rfl, ?_, ?_, ?_, ?_⟩ den_Range___len__
  · intro E he; cases he
  · intro e he; cases he
  · intro e he; cases he
  · intro e he; cases he
  · intro e he; cases he
theorem kn_Range___len__ (X : K.In h) (G : h.Ns mainGlobals mg) (c : SaysQ BS fn K) : MeKn P w K mg base (caK K) 3 ⟨"Range", (E_Range___len__ FQ)⟩ := by
  obtain ⟨⟨fd, F⟩, hk⟩ := c.def_ 30 (d := d_Range___len__) rfl
  refine ⟨_, fd, 1, Nat.le_refl _, (here_me rfl hk F).1, (here_me rfl hk F).2, fo_Range___len__ X G c F, fun s hs => ?_⟩
  rcases List.mem_cons.mp hs with rfl | hs
  · exact shape_n F fun _ _ _ _ _ _ us ws h1 h2 => match us, ws, h1, h2 with | [_], [], _, _ => rfl
  cases hs
theorem fo_Range_least (X : K.In h) (G : h.Ns mainGlobals mg) (c : SaysQ BS fn K) {f : Addr} {fd : FuncData} (F : d_Range_least.Is K f fd) : FnR false P w K mg base 1 f fd ["self"] (spF K (caK K) 1 (sem_Range_least FQ)) := by
  refine def_ok (cfg := cfg_Range_least) (lvl := 0) F sc_Range_least ⟨sc_Range_least.nd, ?_, c.base X G, rfl, fun _ => rfl, ?_, ?_, ?_, ?_⟩ den_Range_least
  · intro E he; cases he
  · intro e he; cases he
  · intro e he; cases he
  · intro e he; cases he
  · intro e he; cases he
theorem kn_Range_least (X : K.In h) (G : h.Ns mainGlobals mg) (c : SaysQ BS fn K) : PrKn P w K mg base (caK K) 2 ⟨"Range", (E_Range_least FQ)⟩ := by
  obtain ⟨⟨fd, F⟩, hk⟩ := c.def_ 31 (d := d_Range_least) rfl
  refine ⟨_, fd, 1, _, Nat.le_refl _, (here_pr rfl hk).1, (here_pr rfl hk).2, fo_Range_least X G c F, rfl, fun s u => ?_⟩
  exact FunD.bindsA (ps := ["self"]) F (fun _ _ _ _ _ _ us hl => match us, hl with | [_], _ => rfl) s [u] rfl
theorem fo_law_k12 (X : K.In h) (G : h.Ns mainGlobals mg) (c : SaysQ BS fn K) {f : Addr} {fd : FuncData} (F : d_law_k12.Is K f fd) : FnR true P w K mg base 14 f fd ["_law_script"] (spF K (caK K) 1 (sem_law_k12 FQ)) := by
  refine def_ok (cfg := cfg_law_k12) (lvl := 13) F sc_law_k12 ⟨sc_law_k12.nd, ?_, c.base X G, rfl, fun _ => rfl, ?_, ?_, ?_, ?_⟩ den_law_k12
  · intro E he
    rcases List.mem_cons.mp he with rfl | he
    · exact (kn__law_box X G c).weak (by omega)
    rcases List.mem_cons.mp he with rfl | he
    · exact (kn__law_tree X G c).weak (by omega)
    rcases List.mem_cons.mp he with rfl | he
    · exact (kn__law_take X G c).weak (by omega)
    rcases List.mem_cons.mp he with rfl | he
    · exact (kn__law_is_in X G c).weak (by omega)
    cases he
  · intro e he
    rcases List.mem_cons.mp he with rfl | he
    · exact (kn_Range___contains__ X G c).mono (by omega)
    rcases List.mem_cons.mp he with rfl | he
    · exact (kn_Range___eq__ X G c).mono (by omega)
    rcases List.mem_cons.mp he with rfl | he
    · exact (kn_Range___sub__ X G c).mono (by omega)
    rcases List.mem_cons.mp he with rfl | he
    · exact (kn_Range___or__ X G c).mono (by omega)
    rcases List.mem_cons.mp he with rfl | he
    · exact (kn_Range___len__ X G c).mono (by omega)
    cases he
  · intro e he; cases he
  · intro e he
    rcases List.mem_cons.mp he with rfl | he
    · exact (kn_Range_nothing X G c).mono (by omega)
    rcases List.mem_cons.mp he with rfl | he
    · exact (kn_Range_from_on X G c).mono (by omega)
    cases he
  · intro e he
    rcases List.mem_cons.mp he with rfl | he
    · exact (kn_Range_least X G c).mono (by omega)
    cases he
theorem kn_law_k12 (X : K.In h) (G : h.Ns mainGlobals mg) (c : SaysQ BS fn K) : FnKn true P w K mg base (caK K) 14 (E_law_k12 FQ) := by
  obtain ⟨⟨fd, F⟩, hk⟩ := c.def_ 32 (d := d_law_k12) rfl
  refine ⟨_, fd, 14, Nat.le_refl _, here_glo X G rfl hk, F.kp, fo_law_k12 X G c F, fun s hs => ?_⟩
  cases hs
end
abbrev R : PySem.W.OpenRow := PySem.W.OpenLaw.row PySem.Challenge.rw_quietbumps_k12_whole_ranges_told_release
abbrev hk : PySem.W.Hook := hookQ 6 BS fn
def ob (s : PySem.W.SharedT) : AlQ := obsQG 6 BS fn (HandSHeadRun.getT s)
theorem ob_eq (s : PySem.W.SharedT) : ob s = hk.obs s.abs := obsQG_eq (HandSHeadRun.getT_eq s)
def others : List PySem.Str := [("__name__" : PySem.Str), ("BumpError" : PySem.Str), ("InvalidRange" : PySem.Str), ("InvalidText" : PySem.Str), ("DIGITS" : PySem.Str), ("MOST_DIGITS" : PySem.Str), ("is_integer" : PySem.Str), ("number_in" : PySem.Str), ("is_release" : PySem.Str), ("release_text" : PySem.Str), ("release_in" : PySem.Str), ("bound_number" : PySem.Str), ("numbered_bound" : PySem.Str), ("FIRST" : PySem.Str), ("WHOLE" : PySem.Str), ("is_stretch" : PySem.Str), ("has" : PySem.Str), ("edges" : PySem.Str), ("is_joined" : PySem.Str), ("joined" : PySem.Str), ("stretch_text" : PySem.Str), ("stretch_in" : PySem.Str), ("Range" : PySem.Str), ("_law_box" : PySem.Str), ("_law_take" : PySem.Str), ("_law_pick" : PySem.Str), ("_law_leaf" : PySem.Str), ("_law_tree" : PySem.Str), ("_law_is_in" : PySem.Str)]
theorem run (w : World) : HandSHeadRun.RunEq R (PySem.W.view R.prog [33]) hk ob 6000 others w := by
  intro os
  kernel_rfl
theorem fq_ok : FqR FQ := by constructor <;> kernel_rfl
theorem law_end {K : PySem.W.Frag} {h : Heap} {w : World} {mg : Str → Option Value} {f : Addr} (X : K.In h) (G : h.Ns mainGlobals mg) (hfa : mg ("law" : Str) = some (.ref f)) (c : SaysQ BS fn K) :
    ∃ (K : PySem.W.Frag) (fd : FuncData) (sp : Sp), K.In h ∧ (∀ (s : Shared) (u : Value), BindsTo s fd ⟨[u], []⟩ [("_law_script", u)]) ∧
        (∀ (H : Hp) (a : Addr) (ns : List Int), ns.length ≤ 63 → Only H → SqL K H a (ns.map V.int) → sp [.ref a] H (fun v _ => v = .bl true) fun _ _ _ => False) ∧
        ∀ base : Heap, K.In base → base.Ns mainGlobals mg → FnR true PySem.Challenge.rw_quietbumps_k12_whole_ranges_told_release.prog w K mg base 14 f fd ["_law_script"] sp := by
  obtain ⟨⟨fd, F⟩, hk⟩ := c.def_ 32 (d := d_law_k12) rfl
  have e := hfa.symm.trans (here_glo X G rfl hk)
  cases e
  have b := FunD.bindsA (ps := ["_law_script"]) F fun _ _ _ _ _ _ us hl => match us, hl with | [_], _ => rfl
  exact ⟨K, fd, spF K (caK K) 1 (sem_law_k12 FQ), X, fun s u => b s [u] rfl, fun H a ns hl _ hS => law_sp (law_true fq_ok) H a ns hl hS, fun base _ _ => fo_law_k12 X G c F⟩
end K12
open PySem PySem.W PySem.Calls PyProof.Rows
theorem PySem.Challenge.cw_quietbumps_k12_whole_ranges_told_release_holds : PySem.Challenge.rw_quietbumps_k12_whole_ranges_told_release.Holds := by
  w_on; o_law
  refine HandSHeadRun.head_any (r := OpenLaw.row PySem.Challenge.rw_quietbumps_k12_whole_ranges_told_release) (q := view (OpenLaw.row PySem.Challenge.rw_quietbumps_k12_whole_ranges_told_release).prog [33]) (H := K12.hk) (ob := K12.ob) (M := 6000) (loose := K12.others) (d := HandSHeadRun.topDef (OpenLaw.row PySem.Challenge.rw_quietbumps_k12_whole_ranges_told_release).prog 33) (kwd := []) K12.ob_eq
    (by kernel_rfl) (fun s => by kernel_rfl) K12.run (by kernel_rfl) (by kernel_rfl) (by kernel_rfl) (by rfl) (by first | assumption | decide +kernel) (by decide +kernel) ⟨rfl, rfl, rfl, rfl, rfl, by decide +kernel⟩ ?hw ?hc
  case hw => w_witness2
  case hc =>
    refine QB.walk_ofW (l := PySem.Challenge.rw_quietbumps_k12_whole_ranges_told_release) (n := 63) (k := 14) (x := "_law_script") rfl (by decide) (by kernel_rfl) ⟨rfl, by decide, by decide⟩ ?F
    intro w mg fa h Y G hmg0
    obtain ⟨K, KX, c⟩ := Y
    have hmg : mg ("law" : PySem.Str) = some (.ref fa) := by
      have e : (HandSHeadRun.topDef (OpenLaw.row PySem.Challenge.rw_quietbumps_k12_whole_ranges_told_release).prog 33).name = ("law" : PySem.Str) := by kernel_rfl
      rw [← e]
      exact hmg0
    exact K12.law_end KX G hmg c
