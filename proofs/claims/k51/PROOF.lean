import PyProof.Rows.All
import Wide.All
import OpenK.AllK
import Wide.FinOn
import HandS.ForMost
import HandS.Deep
import HandS.Exc
import HandS.ExcOwn
import HandS.WordsExc
import HandS.Style
import HandS.IsInst
import KE.SortCalls
import KE.DataCmp
import KE.DataMinMax
import HandS.Dict
import HandS.Small
import HandS.TupLe
import PySem.Challenge.RW_eightroots_k51_whole_halves_of_rows_and
import PyProof.P3Eq
set_option Elab.async false
set_option linter.all false
set_option maxRecDepth 100000
set_option maxHeartbeats 4000000
namespace Pf
open PySem PySem.Spec PyProof.Rows L2

/-! ## plain data, the feed, outcomes -/
inductive D where
  | non | bl (b : Bool) | int (i : Int) | str (x : Str)
  | lst (l : List D) | tup (l : List D)
  | dk (l : List (Key × D)) | dt (l : List (List Key × D))
  | feed | exn (c : Str) (l : List D)

/-- can it be changed in place -/
def D.mt : D → Bool
  | .lst _ => true
  | .dk _ => true
  | .dt _ => true
  | _ => false

structure Fd where
  cells : List Int
  pos : Int
  told : Int
  st : Int

structure Fd.Ok (φ : Fd) : Prop where
  n : φ.cells.length ≤ 63
  a0 : 0 ≤ φ.pos
  a1 : φ.pos ≤ φ.cells.length
  t0 : 0 ≤ φ.told
  s0 : 0 ≤ φ.st
  s1 : φ.st < 2147483647

inductive O (α : Type) where
  | ok (a : α) (φ : Fd)
  | ex (c : Str) (l : List D) (φ : Fd)
  | bad

@[inline] def O.bind {α β : Type} (x : O α) (k : α → Fd → O β) : O β :=
  match x with
  | .ok a φ => k a φ
  | .ex c l φ => .ex c l φ
  | .bad => .bad
def ofO {α : Type} (o : Option α) (φ : Fd) : O α :=
  match o with
  | some a => .ok a φ
  | none => .bad

abbrev En := List (Option D)
/-- what an expression does -/
abbrev SX := En → Fd → O D
/-- what a def does -/
abbrev Fn := List D → Fd → O D

/-! ## how data lies in the heap -/
mutual
inductive Rep (K : PySem.W.Frag) (f : Addr) (Z : Hp) : V → D → Prop
  | non : Rep K f Z .non .non
  | bl (b : Bool) : Rep K f Z (.bl b) (.bl b)
  | int (i : Int) : Rep K f Z (.int i) (.int i)
  | str (x : Str) : Rep K f Z (.str x) (.str x)
  | cel {a : Addr} {o : HO} {d : D} : Z a = some o → RepC K f Z o d → Rep K f Z (.ref a) d
  | tup {a : Addr} {vs : List V} {ds : List D} : SqT K Z a vs → Reps K f Z vs ds → Rep K f Z (.ref a) (.tup ds)
  | feed : Rep K f Z (.ref f) .feed
inductive RepC (K : PySem.W.Frag) (f : Addr) (Z : Hp) : HO → D → Prop
  | lst {vs : List V} {ds : List D} : Reps K f Z vs ds → RepC K f Z (.lst vs) (.lst ds)
  | dk {kvs : List (Key × V)} {ds : List (Key × D)} : KReps K f Z kvs ds → RepC K f Z (.dK kvs) (.dk ds)
  | dt {kvs : List (List Key × V)} {ds : List (List Key × D)} : TReps K f Z kvs ds → RepC K f Z (.dT kvs) (.dt ds)
inductive Reps (K : PySem.W.Frag) (f : Addr) (Z : Hp) : List V → List D → Prop
  | nil : Reps K f Z [] []
  | cons {v : V} {d : D} {vs : List V} {ds : List D} : Rep K f Z v d → Reps K f Z vs ds → Reps K f Z (v :: vs) (d :: ds)
inductive KReps (K : PySem.W.Frag) (f : Addr) (Z : Hp) : List (Key × V) → List (Key × D) → Prop
  | nil : KReps K f Z [] []
  | cons {k : Key} {v : V} {d : D} {r : List (Key × V)} {s : List (Key × D)} : Rep K f Z v d → KReps K f Z r s → KReps K f Z ((k, v) :: r) ((k, d) :: s)
inductive TReps (K : PySem.W.Frag) (f : Addr) (Z : Hp) : List (List Key × V) → List (List Key × D) → Prop
  | nil : TReps K f Z [] []
  | cons {k : List Key} {v : V} {d : D} {r : List (List Key × V)} {s : List (List Key × D)} : Rep K f Z v d → TReps K f Z r s → TReps K f Z ((k, v) :: r) ((k, d) :: s)
end

section
variable {K : PySem.W.Frag} {f : Addr} {Z Z' : Hp}
theorem sqT_mono (h : ∀ a o, Z a = some o → Z' a = some o) {a : Addr} {vs : List V} (q : SqT K Z a vs) : SqT K Z' a vs := by
  rcases q with (q | ⟨o, q⟩) | q
  · exact .inl (.inl (h _ _ q))
  · exact .inl (.inr ⟨o, h _ _ q⟩)
  · exact .inr q
mutual
theorem Rep.mono (h : ∀ a o, Z a = some o → Z' a = some o) : ∀ {v : V} {d : D}, Rep K f Z v d → Rep K f Z' v d
  | _, _, .non => .non
  | _, _, .bl b => .bl b
  | _, _, .int i => .int i
  | _, _, .str x => .str x
  | _, _, .cel e r => .cel (h _ _ e) (r.mono h)
  | _, _, .tup e r => .tup (sqT_mono h e) (r.mono h)
  | _, _, .feed => .feed
theorem RepC.mono (h : ∀ a o, Z a = some o → Z' a = some o) : ∀ {v : HO} {d : D}, RepC K f Z v d → RepC K f Z' v d
  | _, _, .lst r => .lst (r.mono h)
  | _, _, .dk r => .dk (r.mono h)
  | _, _, .dt r => .dt (r.mono h)
theorem Reps.mono (h : ∀ a o, Z a = some o → Z' a = some o) : ∀ {v : List V} {d : List D}, Reps K f Z v d → Reps K f Z' v d
  | _, _, .nil => .nil
  | _, _, .cons r s => .cons (r.mono h) (s.mono h)
theorem KReps.mono (h : ∀ a o, Z a = some o → Z' a = some o) : ∀ {v : List (Key × V)} {d : List (Key × D)}, KReps K f Z v d → KReps K f Z' v d
  | _, _, .nil => .nil
  | _, _, .cons r s => .cons (r.mono h) (s.mono h)
theorem TReps.mono (h : ∀ a o, Z a = some o → Z' a = some o) : ∀ {v : List (List Key × V)} {d : List (List Key × D)}, TReps K f Z v d → TReps K f Z' v d
  | _, _, .nil => .nil
  | _, _, .cons r s => .cons (r.mono h) (s.mono h)
end
theorem Reps.length : ∀ {v : List V} {d : List D}, Reps K f Z v d → v.length = d.length
  | _, _, .nil => rfl
  | _, _, .cons _ s => by simp [s.length]
theorem Reps.app : ∀ {v : List V} {d : List D} {v' : List V} {d' : List D}, Reps K f Z v d → Reps K f Z v' d' → Reps K f Z (v ++ v') (d ++ d')
  | _, _, _, _, .nil, s => s
  | _, _, _, _, .cons r t, s => .cons r (t.app s)
theorem Reps.get : ∀ {v : List V} {d : List D} {i : Nat} {x : D}, Reps K f Z v d → d[i]? = some x → ∃ y, v[i]? = some y ∧ Rep K f Z y x
  | _, _, _, _, .nil, e => by simp at e
  | _, _, 0, _, .cons r _, e => by simp at e; subst e; exact ⟨_, rfl, r⟩
  | _, _, i + 1, x, .cons _ t, e => by
    obtain ⟨y, h1, h2⟩ := Reps.get (i := i) (x := x) t (by simpa using e)
    exact ⟨y, by simpa using h1, h2⟩
theorem Reps.getV : ∀ {v : List V} {d : List D} {i : Nat} {y : V}, Reps K f Z v d → v[i]? = some y → ∃ x, d[i]? = some x ∧ Rep K f Z y x
  | _, _, _, _, .nil, e => by simp at e
  | _, _, 0, _, .cons r _, e => by simp at e; subst e; exact ⟨_, rfl, r⟩
  | _, _, i + 1, x, .cons _ t, e => by
    obtain ⟨y, h1, h2⟩ := Reps.getV (i := i) (y := x) t (by simpa using e)
    exact ⟨y, by simpa using h1, h2⟩
theorem Reps.set {y : V} {x : D} (r : Rep K f Z y x) : ∀ {v : List V} {d : List D} (i : Nat), Reps K f Z v d → Reps K f Z (v.set i y) (d.set i x)
  | _, _, _, .nil => .nil
  | _, _, 0, .cons _ t => .cons r t
  | _, _, i + 1, .cons q t => .cons q (t.set r i)
theorem Reps.take : ∀ {v : List V} {d : List D} (n : Nat), Reps K f Z v d → Reps K f Z (v.take n) (d.take n)
  | _, _, 0, _ => .nil
  | _, _, _ + 1, .nil => .nil
  | _, _, n + 1, .cons r t => .cons r (t.take n)
theorem Reps.drop : ∀ {v : List V} {d : List D} (n : Nat), Reps K f Z v d → Reps K f Z (v.drop n) (d.drop n)
  | _, _, 0, r => r
  | _, _, _ + 1, .nil => .nil
  | _, _, n + 1, .cons _ t => t.drop n
theorem Reps.erase : ∀ {v : List V} {d : List D} (n : Nat), Reps K f Z v d → Reps K f Z (v.eraseIdx n) (d.eraseIdx n)
  | _, _, _, .nil => .nil
  | _, _, 0, .cons _ t => t
  | _, _, n + 1, .cons r t => .cons r (t.erase n)
theorem Reps.rev {v : List V} {d : List D} (h : Reps K f Z v d) : Reps K f Z v.reverse d.reverse := by
  induction v generalizing d with
  | nil => cases h; exact .nil
  | cons x v ih =>
    cases h with
    | cons r s => simpa using (ih s).app (.cons r .nil)
theorem Reps.ints : ∀ (ns : List Int), Reps K f Z (ns.map V.int) (ns.map D.int)
  | [] => .nil
  | n :: r => .cons (.int n) (Reps.ints r)
/-- ints back -/
theorem Reps.ints_inv : ∀ {v : List V} {ns : List Int}, Reps K f Z v (ns.map D.int) → v = ns.map V.int
  | _, [], h => by cases h; rfl
  | _, n :: r, h => by
    cases h with
    | cons a b =>
      cases a with
      | int => rw [Reps.ints_inv b]; rfl
      | cel _ q => cases q
end

/-! ## extension, well-formedness -/
/-- the feed's list of cells is the same -/
def FdK (f : Addr) (H H' : Hp) : Prop := ∀ x vs, H f = some (.lst (x :: vs)) → ∃ us, H' f = some (.lst (x :: us))
theorem FdK.same {f : Addr} {H H' : Hp} (h : H' f = H f) : FdK f H H' := fun x vs e => ⟨vs, h.trans e⟩
theorem FdK.refl {f : Addr} {H : Hp} : FdK f H H := .same rfl
theorem FdK.trans {f : Addr} {H H1 H2 : Hp} (a : FdK f H H1) (b : FdK f H1 H2) : FdK f H H2 := fun x vs e => by
  obtain ⟨us, e1⟩ := a x vs e
  exact b x us e1
structure Ext (f : Addr) (Z H Z' H' : Hp) : Prop where
  z : ∀ a o, Z a = some o → Z' a = some o
  h : ∀ a o, a ≠ f → H a = some o → H' a = some o
  k : ∀ a, H a ≠ none → H' a ≠ none
  n : ∀ a, H a ≠ none → Z a = none → Z' a = none
  d : FdK f H H'
theorem Ext.refl {f : Addr} {Z H : Hp} : Ext f Z H Z H := ⟨fun _ _ h => h, fun _ _ _ h => h, fun _ h => h, fun _ _ h => h, .refl⟩
theorem Ext.trans {f : Addr} {Z H Z1 H1 Z2 H2 : Hp} (a : Ext f Z H Z1 H1) (b : Ext f Z1 H1 Z2 H2) : Ext f Z H Z2 H2 :=
  ⟨fun x o h => b.z x o (a.z x o h), fun x o hx h => b.h x o hx (a.h x o hx h), fun x h => b.k x (a.k x h), fun x h hz => b.n x (a.k x h) (a.n x h hz), a.d.trans b.d⟩

structure Wf (K : PySem.W.Frag) (f : Addr) (Z H : Hp) (φ : Fd) : Prop where
  sub : ∀ a o, Z a = some o → H a = some o
  zf : Z f = none
  feed : ∃ s, Z s = some (.lst (φ.cells.map V.int)) ∧ H f = some (.lst [.ref s, .int φ.pos, .int φ.told, .int φ.st])
  ok : φ.Ok
theorem Wf.hf {K : PySem.W.Frag} {f : Addr} {Z H : Hp} {φ : Fd} (w : Wf K f Z H φ) : H f ≠ none := by
  obtain ⟨s, _, h⟩ := w.feed
  rw [h]; simp

inductive Md where | o | s | p
  deriving DecidableEq
/-- an own cell at v: not frozen -/
def OwnC (K : PySem.W.Frag) (Z H : Hp) (f : Addr) (v : V) (d : D) : Prop := ∃ a o, v = .ref a ∧ Z a = none ∧ a ≠ f ∧ H a = some o ∧ RepC K f Z o d
/-- a result: fresh where it can be changed (o), frozen (s), either (p); H0: the heap at the start -/
def Res (m : Md) (K : PySem.W.Frag) (f : Addr) (H0 Z H : Hp) (v : V) (d : D) : Prop :=
  match m with
  | .s => Rep K f Z v d
  | .p => Rep K f Z v d ∨ OwnC K Z H f v d
  | .o => if d.mt = true then ∃ a o, v = .ref a ∧ H0 a = none ∧ Z a = none ∧ a ≠ f ∧ H a = some o ∧ RepC K f Z o d else Rep K f Z v d

section
variable {K : PySem.W.Frag} {f : Addr} {Z H Z' H' H0 : Hp} {v : V} {d : D}
theorem OwnC.mono (r : OwnC K Z H f v d) (e : Ext f Z H Z' H') : OwnC K Z' H' f v d := by
  obtain ⟨a, o, rfl, hz, hf, ha, rc⟩ := r
  exact ⟨a, o, rfl, e.n a (by rw [ha]; simp) hz, hf, e.h a o hf ha, rc.mono e.z⟩
theorem Res.pmono (r : Res .p K f H0 Z H v d) (e : Ext f Z H Z' H') : Res .p K f H0 Z' H' v d := by
  rcases r with r | r
  · exact .inl (r.mono e.z)
  · exact .inr (r.mono e)
theorem Res.s2p (r : Rep K f Z v d) : Res .p K f H0 Z H v d := .inl r
theorem Res.o2p (r : Res .o K f H0 Z H v d) : Res .p K f H0 Z H v d := by
  by_cases hm : d.mt = true
  · unfold Res at r
    rw [if_pos hm] at r
    obtain ⟨a, o, rfl, _, hz, hf, ha, rc⟩ := r
    exact .inr ⟨a, o, rfl, hz, hf, ha, rc⟩
  · unfold Res at r
    rw [if_neg hm] at r
    exact .inl r
theorem Res.start {m : Md} {H1 : Hp} (r : Res m K f H1 Z H v d) (k : ∀ a, H0 a ≠ none → H1 a ≠ none) : Res m K f H0 Z H v d := by
  cases m with
  | s => exact r
  | p => exact r
  | o =>
    by_cases hm : d.mt = true
    · unfold Res at r ⊢
      rw [if_pos hm] at r ⊢
      obtain ⟨a, o, e, h0, q⟩ := r
      refine ⟨a, o, e, ?_, q⟩
      cases hh : H0 a with
      | none => rfl
      | some x => exact absurd h0 (k a (by rw [hh]; simp))
    · unfold Res at r ⊢
      rw [if_neg hm] at r ⊢
      exact r
/-- data that is not changed is frozen in every mode -/
theorem Res.flat {m : Md} (r : Res m K f H0 Z H v d) (h : d.mt = false) : Rep K f Z v d := by
  cases m with
  | s => exact r
  | p =>
    rcases r with r | ⟨a, o, _, _, _, _, rc⟩
    · exact r
    · cases rc <;> cases h
  | o =>
    unfold Res at r
    rw [if_neg (by rw [h]; simp)] at r
    exact r
theorem Res.of_flat {m : Md} (r : Rep K f Z v d) (h : d.mt = false) : Res m K f H0 Z H v d := by
  cases m with
  | s => exact r
  | p => exact .inl r
  | o =>
    unfold Res
    rw [if_neg (by rw [h]; simp)]
    exact r
end
/-! what a p-result is, by its data -/
section
variable {K : PySem.W.Frag} {f : Addr} {Z H H0 : Hp} {v : V} {φ : Fd}
theorem Res.int {m : Md} {i : Int} (r : Res m K f H0 Z H v (.int i)) : v = .int i := by
  cases r.flat rfl with
  | int => rfl
  | cel _ q => cases q
theorem Res.bl {m : Md} {i : Bool} (r : Res m K f H0 Z H v (.bl i)) : v = .bl i := by
  cases r.flat rfl with
  | bl => rfl
  | cel _ q => cases q
theorem Res.str {m : Md} {i : Str} (r : Res m K f H0 Z H v (.str i)) : v = .str i := by
  cases r.flat rfl with
  | str => rfl
  | cel _ q => cases q
theorem Res.non {m : Md} (r : Res m K f H0 Z H v .non) : v = .non := by
  cases r.flat rfl with
  | non => rfl
  | cel _ q => cases q
theorem Res.feed {m : Md} (r : Res m K f H0 Z H v .feed) : v = .ref f := by
  cases r.flat rfl with
  | feed => rfl
  | cel _ q => cases q
theorem Res.tup {m : Md} {ds : List D} (r : Res m K f H0 Z H v (.tup ds)) : ∃ a vs, v = .ref a ∧ SqT K Z a vs ∧ Reps K f Z vs ds := by
  cases r.flat rfl with
  | tup e q => exact ⟨_, _, rfl, e, q⟩
  | cel _ q => cases q
theorem Wf.sqT (w : Wf K f Z H φ) {a : Addr} {vs : List V} (q : SqT K Z a vs) : SqT K H a vs := sqT_mono w.sub q
/-- a list: a tracked cell -/
theorem Res.lst (r : Res .p K f H0 Z H v (.lst ds)) (w : Wf K f Z H φ) : ∃ a vs, v = .ref a ∧ H a = some (.lst vs) ∧ Reps K f Z vs ds := by
  rcases r with r | ⟨a, o, rfl, hz, hf, ha, rc⟩
  · cases r with
    | cel e q =>
      cases q with
      | lst q => exact ⟨_, _, rfl, w.sub _ _ e, q⟩
  · cases rc with
    | lst q => exact ⟨a, _, rfl, ha, q⟩
theorem Res.dk (r : Res .p K f H0 Z H v (.dk ds)) (w : Wf K f Z H φ) : ∃ a vs, v = .ref a ∧ H a = some (.dK vs) ∧ KReps K f Z vs ds := by
  rcases r with r | ⟨a, o, rfl, hz, hf, ha, rc⟩
  · cases r with
    | cel e q =>
      cases q with
      | dk q => exact ⟨_, _, rfl, w.sub _ _ e, q⟩
  · cases rc with
    | dk q => exact ⟨a, _, rfl, ha, q⟩
theorem Res.dt (r : Res .p K f H0 Z H v (.dt ds)) (w : Wf K f Z H φ) : ∃ a vs, v = .ref a ∧ H a = some (.dT vs) ∧ TReps K f Z vs ds := by
  rcases r with r | ⟨a, o, rfl, hz, hf, ha, rc⟩
  · cases r with
    | cel e q =>
      cases q with
      | dt q => exact ⟨_, _, rfl, w.sub _ _ e, q⟩
  · cases rc with
    | dt q => exact ⟨a, _, rfl, ha, q⟩
end
end Pf

set_option Elab.async false
set_option linter.all false
set_option maxRecDepth 100000
set_option maxHeartbeats 4000000
namespace Pf
open PySem PySem.Spec PyProof.Rows L2

/-! ## the state of a def's body -/
/-- fixed through a def's body: the written part, the feed, the frozen part and the heap at the entry; exceptions' classes by name with their field -/
structure Ct where
  K : PySem.W.Frag
  f : Addr
  Z : Hp
  H : Hp
  cls : Str → Option (Addr × List Str)
  s0 : L2.St
  r0 : En
/-- how a slot stands: o own, fresh; s frozen; p as it stood at the start, to be looked at; r as it stood at the start, frozen -/
inductive Ms where | o | s | p | r
  deriving DecidableEq

/-- how an exception lies -/
def XRep (c : Ct) (Z H : Hp) (x : Str) (l : List D) (cls : Value) (dx : Option Addr) : Prop :=
  ∃ C fs, c.cls x = some (C, fs) ∧ cls = .ref C ∧ ∃ vs, Reps c.K c.f Z vs l ∧ vs.length = fs.length ∧
    (fs = [] ∨ ∃ d, dx = some d ∧ d ≠ c.f ∧ H d = some (.xd (fs.zip vs)))

structure Rl (c : Ct) (own : List Ms) (Z : Hp) (ρ : En) (φ : Fd) (σ : L2.St) (H : Hp) : Prop where
  wf : Wf c.K c.f Z H φ
  ext : Ext c.f c.Z c.H Z H
  len : σ.length = ρ.length
  sh : ∀ (i : Nat) (d : D), ρ[i]? = some (some d) → own[i]? ≠ some .o → own[i]? ≠ some .p → ∃ v, σ[i]? = some (some v) ∧ Rep c.K c.f Z v d
  ow : ∀ (i : Nat) (d : D), ρ[i]? = some (some d) → own[i]? = some .o → ∃ v, σ[i]? = some (some v) ∧ Res .o c.K c.f c.H Z H v d
  ne : ∀ (i j : Nat) (a : Addr) (d e : D), i ≠ j → own[i]? = some .o → own[j]? = some .o → ρ[i]? = some (some d) → d.mt = true → ρ[j]? = some (some e) → e.mt = true →
    σ[i]? = some (some (.ref a)) → σ[j]? = some (some (.ref a)) → False
  pn : ∀ (i : Nat) (d : D), ρ[i]? = some (some d) → own[i]? = some .p ∨ own[i]? = some .r → c.r0[i]? = some (some d) ∧ σ[i]? = c.s0[i]?
  pk : ∀ (i : Nat) (d : D), ρ[i]? = some (some d) → own[i]? = some .p → ∃ v, σ[i]? = some (some v) ∧ Res .p c.K c.f c.H c.Z c.H v d

section
variable {c : Ct} {own : List Ms} {Z Z' : Hp} {ρ : En} {φ φ' : Fd} {σ : L2.St} {H H' : Hp}
/-- a variable, in any case to look at -/
theorem Rl.look (R : Rl c own Z ρ φ σ H) {i : Nat} {d : D} (e : ρ[i]? = some (some d)) : ∃ v, σ[i]? = some (some v) ∧ Res .p c.K c.f H Z H v d := by
  by_cases h : own[i]? = some .o
  · obtain ⟨v, e1, r⟩ := R.ow i d e h
    exact ⟨v, e1, r.o2p⟩
  · by_cases h' : own[i]? = some .p
    · obtain ⟨v, e1, r⟩ := R.pk i d e h'
      exact ⟨v, e1, (show Res .p c.K c.f H c.Z c.H v d from r).pmono R.ext⟩
    · obtain ⟨v, e1, r⟩ := R.sh i d e h h'
      exact ⟨v, e1, .inl r⟩
theorem Rl.more (R : Rl c own Z ρ φ σ H) (e : Ext c.f Z H Z' H') (w : Wf c.K c.f Z' H' φ') : Rl c own Z' ρ φ' σ H' := by
  refine ⟨w, R.ext.trans e, R.len, fun i d h1 h2 h3 => ?_, fun i d h1 h2 => ?_, R.ne, R.pn, R.pk⟩
  · obtain ⟨v, e1, r⟩ := R.sh i d h1 h2 h3
    exact ⟨v, e1, r.mono e.z⟩
  · obtain ⟨v, e1, r⟩ := R.ow i d h1 h2
    refine ⟨v, e1, ?_⟩
    by_cases hm : d.mt = true
    · unfold Res at r ⊢
      rw [if_pos hm] at r ⊢
      obtain ⟨a, o, rfl, h0, hz, hf, ha, rc⟩ := r
      exact ⟨a, o, rfl, h0, e.n a (by rw [ha]; simp) hz, hf, e.h a o hf ha, rc.mono e.z⟩
    · unfold Res at r ⊢
      rw [if_neg hm] at r ⊢
      exact r.mono e.z
end

/-! ## an outcome's wish -/
def Post (c : Ct) (m : Md) (W : WX) (o : O D) (σ : L2.St) (Z H : Hp) (Q : VK) : Prop :=
  match o with
  | .ok d φ => ∀ v Z' H', Ext c.f Z H Z' H' → Wf c.K c.f Z' H' φ → Res m c.K c.f H Z' H' v d → Q v H'
  | .ex x l φ => ∀ cls dx Z' H', Ext c.f Z H Z' H' → Wf c.K c.f Z' H' φ → XRep c Z' H' x l cls dx → W cls dx σ H'
  | .bad => False
/-- an expression's reading by what it does -/
def tE (c : Ct) (own : List Ms) (m : Md) (W : WX) (A : SX) : TE := fun σ H Q => ∃ Z ρ φ, Rl c own Z ρ φ σ H ∧ Post c m W (A ρ φ) σ Z H Q
/-- an argument list's -/
abbrev SA := En → Fd → O (List D)
def RAll (m : Md) (K : PySem.W.Frag) (f : Addr) (H0 Z H : Hp) : List V → List D → Prop
  | [], [] => True
  | v :: vs, d :: ds => Res m K f H0 Z H v d ∧ RAll m K f H0 Z H vs ds
  | _, _ => False
theorem RAll.pmono {K : PySem.W.Frag} {f : Addr} {H0 Z H Z' H' : Hp} (e : Ext f Z H Z' H') : ∀ {vs : List V} {ds : List D}, RAll .p K f H0 Z H vs ds → RAll .p K f H0 Z' H' vs ds
  | [], [], _ => trivial
  | _ :: _, _ :: _, h => ⟨h.1.pmono e, RAll.pmono e h.2⟩
theorem RAll.smono {K : PySem.W.Frag} {f : Addr} {H0 Z H Z' H' H1 : Hp} (e : Ext f Z H Z' H') : ∀ {vs : List V} {ds : List D}, RAll .s K f H0 Z H vs ds → RAll .s K f H1 Z' H' vs ds
  | [], [], _ => trivial
  | _ :: _, _ :: _, h => ⟨Rep.mono e.z h.1, RAll.smono e h.2⟩
theorem RAll.start {m : Md} {K : PySem.W.Frag} {f : Addr} {H0 H1 Z H : Hp} (k : ∀ a, H0 a ≠ none → H1 a ≠ none) : ∀ {vs : List V} {ds : List D}, RAll m K f H1 Z H vs ds → RAll m K f H0 Z H vs ds
  | [], [], _ => trivial
  | _ :: _, _ :: _, h => ⟨h.1.start k, RAll.start k h.2⟩
theorem RAll.reps {K : PySem.W.Frag} {f : Addr} {H0 Z H : Hp} : ∀ {vs : List V} {ds : List D}, RAll .s K f H0 Z H vs ds → Reps K f Z vs ds
  | [], [], _ => .nil
  | _ :: _, _ :: _, h => .cons h.1 (RAll.reps h.2)
theorem RAll.length {m : Md} {K : PySem.W.Frag} {f : Addr} {H0 Z H : Hp} : ∀ {vs : List V} {ds : List D}, RAll m K f H0 Z H vs ds → vs.length = ds.length
  | [], [], _ => rfl
  | _ :: _, _ :: _, h => by simp [RAll.length h.2]
def PostA (c : Ct) (m : Md) (W : WX) (o : O (List D)) (σ : L2.St) (Z H : Hp) (Q : List V → Hp → Prop) : Prop :=
  match o with
  | .ok d φ => ∀ v Z' H', Ext c.f Z H Z' H' → Wf c.K c.f Z' H' φ → RAll m c.K c.f H Z' H' v d → Q v H'
  | .ex x l φ => ∀ cls dx Z' H', Ext c.f Z H Z' H' → Wf c.K c.f Z' H' φ → XRep c Z' H' x l cls dx → W cls dx σ H'
  | .bad => False
def tA (c : Ct) (own : List Ms) (m : Md) (W : WX) (A : SA) : TA := fun σ H Q => ∃ Z ρ φ, Rl c own Z ρ φ σ H ∧ PostA c m W (A ρ φ) σ Z H Q
/-- a test's -/
abbrev SB := En → Fd → O Bool
def PostB (c : Ct) (W : WX) (o : O Bool) (σ : L2.St) (Z H : Hp) (Q : Bool → Hp → Prop) : Prop :=
  match o with
  | .ok d φ => ∀ Z' H', Ext c.f Z H Z' H' → Wf c.K c.f Z' H' φ → Q d H'
  | .ex x l φ => ∀ cls dx Z' H', Ext c.f Z H Z' H' → Wf c.K c.f Z' H' φ → XRep c Z' H' x l cls dx → W cls dx σ H'
  | .bad => False
def tB (c : Ct) (own : List Ms) (W : WX) (A : SB) : TT := fun σ H Q => ∃ Z ρ φ, Rl c own Z ρ φ σ H ∧ PostB c W (A ρ φ) σ Z H Q

section
variable {c : Ct} {own : List Ms} {m m1 : Md} {W : WX} {Z H Z1 H1 : Hp} {σ : L2.St}
theorem Post.shift {o : O D} {Q : VK} (e : Ext c.f Z H Z1 H1) (h : Post c m W o σ Z H Q) : Post c m W o σ Z1 H1 Q := by
  cases o with
  | ok d φ => exact fun v Z' H' e' w r => h v Z' H' (e.trans e') w (r.start e.k)
  | ex x l φ => exact fun cls dx Z' H' e' w r => h cls dx Z' H' (e.trans e') w r
  | bad => exact h
theorem PostA.shift {o : O (List D)} {Q : List V → Hp → Prop} (e : Ext c.f Z H Z1 H1) (h : PostA c m W o σ Z H Q) : PostA c m W o σ Z1 H1 Q := by
  cases o with
  | ok d φ => exact fun v Z' H' e' w r => h v Z' H' (e.trans e') w (r.start e.k)
  | ex x l φ => exact fun cls dx Z' H' e' w r => h cls dx Z' H' (e.trans e') w r
  | bad => exact h
theorem PostB.shift {o : O Bool} {Q : Bool → Hp → Prop} (e : Ext c.f Z H Z1 H1) (h : PostB c W o σ Z H Q) : PostB c W o σ Z1 H1 Q := by
  cases o with
  | ok d φ => exact fun Z' H' e' w => h Z' H' (e.trans e') w
  | ex x l φ => exact fun cls dx Z' H' e' w r => h cls dx Z' H' (e.trans e') w r
  | bad => exact h
/-- the wishes of an expression in the midst: E .. any of the three posts of what follows -/
theorem Post.bind {α : Type} {x : O D} {k : D → Fd → O α} {E : O α → Hp → Hp → Prop} {R : VK}
    (hE : ∀ (o : O α) Z1 H1, Ext c.f Z H Z1 H1 → E o Z H → E o Z1 H1) (hX : ∀ y l φ, E (.ex y l φ) Z H → ∀ cls dx Z' H', Ext c.f Z H Z' H' → Wf c.K c.f Z' H' φ → XRep c Z' H' y l cls dx → W cls dx σ H') (hB : ¬ E .bad Z H)
    (h : E (x.bind k) Z H) (hr : ∀ d φ1 v Z1 H1, Ext c.f Z H Z1 H1 → Wf c.K c.f Z1 H1 φ1 → Res m1 c.K c.f H Z1 H1 v d → E (k d φ1) Z1 H1 → R v H1) : Post c m1 W x σ Z H R := by
  cases x with
  | ok d φ => exact fun v Z' H' e w r => hr d φ v Z' H' e w r (hE _ _ _ e h)
  | ex y l φ => exact hX y l φ h
  | bad => exact hB h
theorem Post.bindE {x : O D} {k : D → Fd → O D} {Q R : VK} (h : Post c m W (x.bind k) σ Z H Q)
    (hr : ∀ d φ1 v Z1 H1, Ext c.f Z H Z1 H1 → Wf c.K c.f Z1 H1 φ1 → Res m1 c.K c.f H Z1 H1 v d → Post c m W (k d φ1) σ Z1 H1 Q → R v H1) : Post c m1 W x σ Z H R :=
  Post.bind (E := fun o Z H => Post c m W o σ Z H Q) (fun _ _ _ e h => h.shift e) (fun _ _ _ h => h) (fun h => h) h hr
theorem Post.bindA {x : O D} {k : D → Fd → O (List D)} {Q : List V → Hp → Prop} {R : VK} (h : PostA c m W (x.bind k) σ Z H Q)
    (hr : ∀ d φ1 v Z1 H1, Ext c.f Z H Z1 H1 → Wf c.K c.f Z1 H1 φ1 → Res m1 c.K c.f H Z1 H1 v d → PostA c m W (k d φ1) σ Z1 H1 Q → R v H1) : Post c m1 W x σ Z H R :=
  Post.bind (E := fun o Z H => PostA c m W o σ Z H Q) (fun _ _ _ e h => h.shift e) (fun _ _ _ h => h) (fun h => h) h hr
theorem Post.bindB {x : O D} {k : D → Fd → O Bool} {Q : Bool → Hp → Prop} {R : VK} (h : PostB c W (x.bind k) σ Z H Q)
    (hr : ∀ d φ1 v Z1 H1, Ext c.f Z H Z1 H1 → Wf c.K c.f Z1 H1 φ1 → Res m1 c.K c.f H Z1 H1 v d → PostB c W (k d φ1) σ Z1 H1 Q → R v H1) : Post c m1 W x σ Z H R :=
  Post.bind (E := fun o Z H => PostB c W o σ Z H Q) (fun _ _ _ e h => h.shift e) (fun _ _ _ h => h) (fun h => h) h hr
theorem PostA.bind {α : Type} {x : O (List D)} {k : List D → Fd → O α} {E : O α → Hp → Hp → Prop} {R : List V → Hp → Prop}
    (hE : ∀ (o : O α) Z1 H1, Ext c.f Z H Z1 H1 → E o Z H → E o Z1 H1) (hX : ∀ y l φ, E (.ex y l φ) Z H → ∀ cls dx Z' H', Ext c.f Z H Z' H' → Wf c.K c.f Z' H' φ → XRep c Z' H' y l cls dx → W cls dx σ H') (hB : ¬ E .bad Z H)
    (h : E (x.bind k) Z H) (hr : ∀ d φ1 v Z1 H1, Ext c.f Z H Z1 H1 → Wf c.K c.f Z1 H1 φ1 → RAll m1 c.K c.f H Z1 H1 v d → E (k d φ1) Z1 H1 → R v H1) : PostA c m1 W x σ Z H R := by
  cases x with
  | ok d φ => exact fun v Z' H' e w r => hr d φ v Z' H' e w r (hE _ _ _ e h)
  | ex y l φ => exact hX y l φ h
  | bad => exact hB h
theorem PostA.bindE {x : O (List D)} {k : List D → Fd → O D} {Q : VK} {R : List V → Hp → Prop} (h : Post c m W (x.bind k) σ Z H Q)
    (hr : ∀ d φ1 v Z1 H1, Ext c.f Z H Z1 H1 → Wf c.K c.f Z1 H1 φ1 → RAll m1 c.K c.f H Z1 H1 v d → Post c m W (k d φ1) σ Z1 H1 Q → R v H1) : PostA c m1 W x σ Z H R :=
  PostA.bind (E := fun o Z H => Post c m W o σ Z H Q) (fun _ _ _ e h => h.shift e) (fun _ _ _ h => h) (fun h => h) h hr
theorem PostA.bindA {x : O (List D)} {k : List D → Fd → O (List D)} {Q : List V → Hp → Prop} {R : List V → Hp → Prop} (h : PostA c m W (x.bind k) σ Z H Q)
    (hr : ∀ d φ1 v Z1 H1, Ext c.f Z H Z1 H1 → Wf c.K c.f Z1 H1 φ1 → RAll m1 c.K c.f H Z1 H1 v d → PostA c m W (k d φ1) σ Z1 H1 Q → R v H1) : PostA c m1 W x σ Z H R :=
  PostA.bind (E := fun o Z H => PostA c m W o σ Z H Q) (fun _ _ _ e h => h.shift e) (fun _ _ _ h => h) (fun h => h) h hr
theorem PostB.bind {α : Type} {x : O Bool} {k : Bool → Fd → O α} {E : O α → Hp → Hp → Prop} {R : Bool → Hp → Prop}
    (hE : ∀ (o : O α) Z1 H1, Ext c.f Z H Z1 H1 → E o Z H → E o Z1 H1) (hX : ∀ y l φ, E (.ex y l φ) Z H → ∀ cls dx Z' H', Ext c.f Z H Z' H' → Wf c.K c.f Z' H' φ → XRep c Z' H' y l cls dx → W cls dx σ H') (hB : ¬ E .bad Z H)
    (h : E (x.bind k) Z H) (hr : ∀ d φ1 Z1 H1, Ext c.f Z H Z1 H1 → Wf c.K c.f Z1 H1 φ1 → E (k d φ1) Z1 H1 → R d H1) : PostB c W x σ Z H R := by
  cases x with
  | ok d φ => exact fun Z' H' e w => hr d φ Z' H' e w (hE _ _ _ e h)
  | ex y l φ => exact hX y l φ h
  | bad => exact hB h
theorem PostB.bindE {x : O Bool} {k : Bool → Fd → O D} {Q : VK} {R : Bool → Hp → Prop} (h : Post c m W (x.bind k) σ Z H Q)
    (hr : ∀ d φ1 Z1 H1, Ext c.f Z H Z1 H1 → Wf c.K c.f Z1 H1 φ1 → Post c m W (k d φ1) σ Z1 H1 Q → R d H1) : PostB c W x σ Z H R :=
  PostB.bind (E := fun o Z H => Post c m W o σ Z H Q) (fun _ _ _ e h => h.shift e) (fun _ _ _ h => h) (fun h => h) h hr
theorem PostB.bindB {x : O Bool} {k : Bool → Fd → O Bool} {Q : Bool → Hp → Prop} {R : Bool → Hp → Prop} (h : PostB c W (x.bind k) σ Z H Q)
    (hr : ∀ d φ1 Z1 H1, Ext c.f Z H Z1 H1 → Wf c.K c.f Z1 H1 φ1 → PostB c W (k d φ1) σ Z1 H1 Q → R d H1) : PostB c W x σ Z H R :=
  PostB.bind (E := fun o Z H => PostB c W o σ Z H Q) (fun _ _ _ e h => h.shift e) (fun _ _ _ h => h) (fun h => h) h hr
/-- changing the mode -/
theorem Post.mode {m2 : Md} {o : O D} {Q : VK} (h : Post c m W o σ Z H Q) (k : ∀ d φ v Z' H', Ext c.f Z H Z' H' → Wf c.K c.f Z' H' φ → Res m2 c.K c.f H Z' H' v d → ∃ Z2, Ext c.f Z H Z2 H' ∧ Wf c.K c.f Z2 H' φ ∧ Res m c.K c.f H Z2 H' v d) : Post c m2 W o σ Z H Q := by
  cases o with
  | ok d φ =>
    intro v Z' H' e w r
    obtain ⟨Z2, e2, w2, r2⟩ := k d φ v Z' H' e w r
    exact h v Z2 H' e2 w2 r2
  | ex x l φ => exact h
  | bad => exact h
end

/-! ## the judgements -/
theorem PE.weak {X : Cx} {e : Expr} {t t' : TE} (h : PE X e t) (k : ∀ σ H Q, t' σ H Q → t σ H Q) : PE X e t' := ⟨fun pins s σ H Q I q => h.run pins s σ H Q I (k σ H Q q)⟩
theorem PT.weak {X : Cx} {e : Expr} {t t' : TT} (h : PT X e t) (k : ∀ σ H Q, t' σ H Q → t σ H Q) : PT X e t' := ⟨fun pins s σ H Q I q => h.run pins s σ H Q I (k σ H Q q)⟩
theorem PW.weak {X : Cx} {e : Expr} {t t' : TT} (h : PW X e t) (k : ∀ σ H Q, t' σ H Q → t σ H Q) : PW X e t' := ⟨fun wh pins s σ H Q I q => h.run wh pins s σ H Q I (k σ H Q q)⟩
theorem PA.weak {X : Cx} {e : List Expr} {t t' : TA} (h : PA X e t) (k : ∀ σ H Q, t' σ H Q → t σ H Q) : PA X e t' := ⟨fun pos pins s σ H Q I q => h.run pos pins s σ H Q I (k σ H Q q)⟩
theorem PS.weak {X : Cx} {e : Stmt} {t t' : TS} (h : PS X e t) (k : ∀ D σ H, t' D σ H → t D σ H) : PS X e t' := ⟨fun pins s σ H D I q => h.run pins s σ H D I (k D σ H q)⟩
theorem PSs.weak {X : Cx} {e : List Stmt} {t t' : TS} (h : PSs X e t) (k : ∀ D σ H, t' D σ H → t D σ H) : PSs X e t' := ⟨fun pins s σ H D I q => h.run pins s σ H D I (k D σ H q)⟩
theorem PI.weak {X : Cx} {tg e : Expr} {t t' : TI} (h : PI X tg e t) (k : ∀ σ H R, t' σ H R → t σ H R) : PI X tg e t' := ⟨fun pins s σ H R I q => h.run pins s σ H R I (k σ H R q)⟩

/-- X's written part is c's; the judgement in short -/
structure Sc (X : Cx) (c : Ct) : Prop where
  K : X.K = c.K
abbrev EX (X : Cx) (c : Ct) (own : List Ms) (m : Md) (W : WX) (e : Expr) (A : SX) : Prop := PE X e (tE c own m W A)

section
variable {X : Cx} {c : Ct} {own : List Ms} {m : Md} {W : WX} {e : Expr} {A : SX}
/-- freezing a fresh cell -/
theorem freeze {Z H Z' H' : Hp} {φ : Fd} {a : Addr} {o : HO} {d : D} (e : Ext c.f Z H Z' H') (w : Wf c.K c.f Z' H' φ) (h0 : H a = none) (hz : Z' a = none) (hf : a ≠ c.f) (ha : H' a = some o) (rc : RepC c.K c.f Z' o d) :
    Ext c.f Z H (upd Z' a o) H' ∧ Wf c.K c.f (upd Z' a o) H' φ ∧ Rep c.K c.f (upd Z' a o) (.ref a) d := by
  have up : ∀ b u, Z' b = some u → upd Z' a o b = some u := fun b u q => by rw [upd_ne (ne_of_none q hz)]; exact q
  refine ⟨⟨fun b u q => up b u (e.z b u q), e.h, e.k, fun b hb hzb => ?_, e.d⟩, ⟨fun b u q => ?_, ?_, ?_, w.ok⟩, .cel upd_same (rc.mono up)⟩
  · have : b ≠ a := fun z => hb (z ▸ h0)
    rw [upd_ne this]
    exact e.n b hb hzb
  · by_cases hb : b = a
    · subst hb; rw [upd_same] at q; cases q; exact ha
    · rw [upd_ne hb] at q; exact w.sub b u q
  · rw [upd_ne (Ne.symm hf)]; exact w.zf
  · obtain ⟨s, h1, h2⟩ := w.feed
    exact ⟨s, up _ _ h1, h2⟩
theorem EX.o2s (h : EX X c own .o W e A) : EX X c own .s W e A := by
  refine PE.weak h ?_
  rintro σ H Q ⟨Z, ρ, φ, R, p⟩
  refine ⟨Z, ρ, φ, R, p.mode fun d φ v Z' H' e w r => ?_⟩
  by_cases hm : d.mt = true
  · unfold Res at r
    rw [if_pos hm] at r
    obtain ⟨a, o, rfl, h0, hz, hf, ha, rc⟩ := r
    obtain ⟨e2, w2, r2⟩ := freeze e w h0 hz hf ha rc
    exact ⟨_, e2, w2, r2⟩
  · unfold Res at r
    rw [if_neg hm] at r
    exact ⟨Z', e, w, r⟩
theorem EX.s2p (h : EX X c own .s W e A) : EX X c own .p W e A := by
  refine PE.weak h ?_
  rintro σ H Q ⟨Z, ρ, φ, R, p⟩
  exact ⟨Z, ρ, φ, R, p.mode fun d φ v Z' H' e w r => ⟨Z', e, w, .inl r⟩⟩
theorem EX.o2p (h : EX X c own .o W e A) : EX X c own .p W e A := by
  refine PE.weak h ?_
  rintro σ H Q ⟨Z, ρ, φ, R, p⟩
  exact ⟨Z, ρ, φ, R, p.mode fun d φ v Z' H' e w r => ⟨Z', e, w, r.o2p⟩⟩
end

/-! ## names, constants -/
def eVar (i : Nat) : SX := fun ρ φ => match ρ[i]? with
  | some (some d) => .ok d φ
  | _ => .bad
def eInt (i : Int) : SX := fun _ φ => .ok (.int i) φ
def eBl (b : Bool) : SX := fun _ φ => .ok (.bl b) φ
def eNon : SX := fun _ φ => .ok .non φ
def eStr (x : Str) : SX := fun _ φ => .ok (.str x) φ
theorem eVar_ok {i : Nat} {ρ : En} {φ : Fd} {c : Ct} {m : Md} {W : WX} {σ : L2.St} {Z H : Hp} {Q : VK} (h : Post c m W (eVar i ρ φ) σ Z H Q) : ∃ d, ρ[i]? = some (some d) ∧ Post c m W (.ok d φ) σ Z H Q := by
  unfold eVar at h
  split at h
  · exact ⟨_, by assumption, h⟩
  · exact h.elim
section
variable {X : Cx} {c : Ct} {own : List Ms} {m : Md} {W : WX} {pos : Pos}
theorem x_var (i : Nat) {x : Str} (hN : X.N[i]? = some x := by rfl) (hv : Vis X.env.scope x := by first | exact Or.inl rfl | exact Or.inr (Or.inl rfl) | exact Or.inr (Or.inr rfl)) (hd : (x == ("__debug__" : Str)) = false := by decide)
    (hcd : (x == ("__classdict__" : Str)) = false := by decide) : EX X c own .p W (.Name x pos) (eVar i) := by
  refine PE.weak (pe_var hN hv hd hcd) ?_
  rintro σ H Q ⟨Z, ρ, φ, R, h⟩
  obtain ⟨d, e, h⟩ := eVar_ok h
  obtain ⟨v, e1, r⟩ := R.look e
  exact ⟨v, e1, h v Z H .refl R.wf r⟩
/-- a variable that is not own: its value may go anywhere -/
theorem x_varS (i : Nat) {x : Str} (ho : own[i]? ≠ some .o := by decide) (hp : own[i]? ≠ some .p := by decide) (hN : X.N[i]? = some x := by rfl) (hv : Vis X.env.scope x := by first | exact Or.inl rfl | exact Or.inr (Or.inl rfl) | exact Or.inr (Or.inr rfl)) (hd : (x == ("__debug__" : Str)) = false := by decide)
    (hcd : (x == ("__classdict__" : Str)) = false := by decide) : EX X c own .s W (.Name x pos) (eVar i) := by
  refine PE.weak (pe_var hN hv hd hcd) ?_
  rintro σ H Q ⟨Z, ρ, φ, R, h⟩
  obtain ⟨d, e, h⟩ := eVar_ok h
  obtain ⟨v, e1, r⟩ := R.sh i d e ho hp
  exact ⟨v, e1, h v Z H .refl R.wf r⟩
theorem x_int {i j} : EX X c own .o W (.Constant (.int i) j pos) (eInt i) :=
  PE.weak pe_int fun σ H Q ⟨Z, ρ, φ, R, h⟩ => h _ Z H .refl R.wf (Res.of_flat (.int i) rfl)
theorem x_bl {b j} : EX X c own .o W (.Constant (.bool b) j pos) (eBl b) :=
  PE.weak pe_bl fun σ H Q ⟨Z, ρ, φ, R, h⟩ => h _ Z H .refl R.wf (Res.of_flat (.bl b) rfl)
theorem x_non {j} : EX X c own .o W (.Constant .none j pos) eNon :=
  PE.weak pe_non fun σ H Q ⟨Z, ρ, φ, R, h⟩ => h _ Z H .refl R.wf (Res.of_flat .non rfl)
theorem x_str {x j} : EX X c own .o W (.Constant (.str x) j pos) (eStr x) :=
  PE.weak pe_str fun σ H Q ⟨Z, ρ, φ, R, h⟩ => h _ Z H .refl R.wf (Res.of_flat (.str x) rfl)
/-- a module's constant that is flat -/
theorem x_glob {x : Str} {v : V} {d : D} {u : Value} (hg : Gl X x := by rfl) (hm : X.mg x = some u) (r : RelV v u) (rd : ∀ K f Z, Rep K f Z v d) (hf : d.mt = false := by rfl) (hd : (x == ("__debug__" : Str)) = false := by decide) :
    EX X c own .o W (.Name x pos) (fun _ φ => .ok d φ) :=
  PE.weak (pe_glob hg hm r hd) fun σ H Q ⟨Z, ρ, φ, R, h⟩ => h _ Z H .refl R.wf (Res.of_flat (rd _ _ _) hf)

/-! ## operators by values -/
def eBin (g : D → D → Option D) (A B : SX) : SX := fun ρ φ => (A ρ φ).bind fun d φ1 => (B ρ φ1).bind fun e φ2 => ofO (g d e) φ2
def eUn (g : D → Option D) (A : SX) : SX := fun ρ φ => (A ρ φ).bind fun d φ1 => ofO (g d) φ1
/-- g tells what the rule r asks -/
def OpG (r : R2) (m : Md) (c : Ct) (g : D → D → Option D) : Prop :=
  ∀ (Z H : Hp) (φ : Fd) (x y : V) (d e z : D) (W : WX) (σ : L2.St) (Q : VK), Wf c.K c.f Z H φ → Res .p c.K c.f H Z H x d → Res .p c.K c.f H Z H y e → g d e = some z → Post c m W (.ok z φ) σ Z H Q → r x y H Q
def UnG (r : V → Hp → VK → Prop) (m : Md) (c : Ct) (g : D → Option D) : Prop :=
  ∀ (Z H : Hp) (φ : Fd) (x : V) (d z : D) (W : WX) (σ : L2.St) (Q : VK), Wf c.K c.f Z H φ → Res .p c.K c.f H Z H x d → g d = some z → Post c m W (.ok z φ) σ Z H Q → r x H Q
theorem ofO_ok {α : Type} {o : Option α} {φ : Fd} {E : O α → Prop} (h : E (ofO o φ)) (hb : ¬ E .bad) : ∃ z, o = some z ∧ E (.ok z φ) := by
  cases o with
  | none => exact absurd h hb
  | some z => exact ⟨z, rfl, h⟩
theorem bin_core {r : R2} {g : D → D → Option D} {A B : SX} (hg : OpG r m c g) {σ : L2.St} {H : Hp} {Q : VK} (h : tE c own m W (eBin g A B) σ H Q) :
    tOp r (tE c own .p W A) (tE c own .p W B) σ H Q := by
  obtain ⟨Z, ρ, φ, R, h⟩ := h
  refine ⟨Z, ρ, φ, R, Post.bindE h fun d φ1 x Z1 H1 e1 w1 r1 h1 => ?_⟩
  refine ⟨Z1, ρ, φ1, R.more e1 w1, Post.bindE h1 fun e φ2 y Z2 H2 e2 w2 r2 h2 => ?_⟩
  obtain ⟨z, hz, h3⟩ := ofO_ok (E := fun o => Post c m W o σ Z2 H2 Q) h2 fun z => z
  exact hg Z2 H2 φ2 x y d e z W σ Q w2 (show Res .p c.K c.f H2 Z2 H2 x d from r1.pmono e2) (show Res .p c.K c.f H2 Z2 H2 y e from r2) hz h3
theorem x_bin {op : Operator} {r : R2} {g : D → D → Option D} {a b : Expr} {A B : SX} (ho : OpR X (binaryOp op) r) (hg : OpG r m c g) (ha : EX X c own .p W a A) (hb : EX X c own .p W b B) :
    EX X c own m W (.BinOp a op b pos) (eBin g A B) := PE.weak (pe_op ho ha hb) fun _ _ _ h => bin_core hg h
theorem x_cmp {op : CmpOp} {r : R2} {g : D → D → Option D} {a b : Expr} {A B : SX} (ho : OpR X (compareOp op) r) (hg : OpG r m c g) (ha : EX X c own .p W a A) (hb : EX X c own .p W b B) (hm : behindInMarks op b = false) :
    EX X c own m W (.Compare a [op] [b] pos) (eBin g A B) := PE.weak (pe_cmpR ho ha hb hm) fun _ _ _ h => bin_core hg h
theorem un_core {r : V → Hp → VK → Prop} {g : D → Option D} {A : SX} (hg : UnG r m c g) {σ : L2.St} {H : Hp} {Q : VK} (h : tE c own m W (eUn g A) σ H Q) : tUn r (tE c own .p W A) σ H Q := by
  obtain ⟨Z, ρ, φ, R, h⟩ := h
  refine ⟨Z, ρ, φ, R, Post.bindE h fun d φ1 x Z1 H1 e1 w1 r1 h1 => ?_⟩
  obtain ⟨z, hz, h3⟩ := ofO_ok (E := fun o => Post c m W o σ Z1 H1 Q) h1 fun z => z
  exact hg Z1 H1 φ1 x d z W σ Q w1 (show Res .p c.K c.f H1 Z1 H1 x d from r1) hz h3
theorem x_un {op : UnaryOp} {r : V → Hp → VK → Prop} {g : D → Option D} {a : Expr} {A : SX} (ho : UnR X (unaryOp op) r) (hg : UnG r m c g) (ha : EX X c own .p W a A) : EX X c own m W (.UnaryOp op a pos) (eUn g A) :=
  PE.weak (pe_un ho ha) fun _ _ _ h => un_core hg h

/-! ## argument lists, calls of built-ins, displays -/
def aNil : SA := fun _ φ => .ok [] φ
def aCons (A : SX) (B : SA) : SA := fun ρ φ => (A ρ φ).bind fun d φ1 => (B ρ φ1).bind fun ds φ2 => .ok (d :: ds) φ2
abbrev AX (X : Cx) (c : Ct) (own : List Ms) (m : Md) (W : WX) (es : List Expr) (A : SA) : Prop := PA X es (tA c own m W A)
theorem x_nil : AX X c own m W [] aNil := PA.weak pa_nil fun σ H Q ⟨Z, ρ, φ, R, h⟩ => h [] Z H .refl R.wf trivial
theorem Res.mono {K : PySem.W.Frag} {f : Addr} {H0 Z H Z' H' : Hp} {v : V} {d : D} (r : Res m K f H0 Z H v d) (e : Ext f Z H Z' H') : Res m K f H0 Z' H' v d := by
  cases m with
  | s => exact Rep.mono e.z r
  | p => exact r.pmono e
  | o =>
    by_cases hm : d.mt = true
    · unfold Res at r ⊢
      rw [if_pos hm] at r ⊢
      obtain ⟨a, o, rfl, h0, hz, hf, ha, rc⟩ := r
      exact ⟨a, o, rfl, h0, e.n a (by rw [ha]; simp) hz, hf, e.h a o hf ha, rc.mono e.z⟩
    · unfold Res at r ⊢
      rw [if_neg hm] at r ⊢
      exact r.mono e.z
theorem Res.any {K : PySem.W.Frag} {f : Addr} {H0 H1 Z H : Hp} {v : V} {d : D} (hm : m ≠ .o) (r : Res m K f H0 Z H v d) : Res m K f H1 Z H v d := by
  cases m with
  | s => exact r
  | p => exact r
  | o => exact absurd rfl hm
theorem RAll.any {K : PySem.W.Frag} {f : Addr} {H0 H1 Z H : Hp} (hm : m ≠ .o) : ∀ {vs : List V} {ds : List D}, RAll m K f H0 Z H vs ds → RAll m K f H1 Z H vs ds
  | [], [], _ => trivial
  | _ :: _, _ :: _, h => ⟨h.1.any hm, RAll.any hm h.2⟩
theorem x_cons {e : Expr} {es : List Expr} {A : SX} {B : SA} (ha : EX X c own m W e A) (hb : AX X c own m W es B) (hm : m ≠ .o := by decide) (hs : starEach (e :: es) X.env = (false, eval e X.env) :: starEach es X.env := by rfl) : AX X c own m W (e :: es) (aCons A B) := by
  refine PA.weak (pa_cons ha hb hs) ?_
  rintro σ H Q ⟨Z, ρ, φ, R, h⟩
  refine ⟨Z, ρ, φ, R, Post.bindA h fun d φ1 x Z1 H1 e1 w1 r1 h1 => ?_⟩
  refine ⟨Z1, ρ, φ1, R.more e1 w1, PostA.bindA h1 fun ds φ2 xs Z2 H2 e2 w2 r2 h2 => ?_⟩
  exact h2 (x :: xs) Z2 H2 .refl w2 ⟨(r1.mono e2).any hm, r2.any hm⟩
/-! displays -/
def eLst (A : SA) : SX := fun ρ φ => (A ρ φ).bind fun ds φ1 => if ds.length ≤ sizeLine then .ok (.lst ds) φ1 else .bad
def eTup (A : SA) : SX := fun ρ φ => (A ρ φ).bind fun ds φ1 => if ds.length ≤ sizeLine then .ok (.tup ds) φ1 else .bad
/-- a new cell, own -/
theorem Post.newO {o : HO} {d : D} {φ : Fd} {Z H : Hp} {σ : L2.St} {Q : VK} (w : Wf c.K c.f Z H φ) (rc : RepC c.K c.f Z o d) (h : Post c .o W (.ok d φ) σ Z H Q) : ∀ p, H p = none → Q (.ref p) (upd H p o) := by
  intro p hp
  have hz : Z p = none := by
    cases e : Z p with
    | none => rfl
    | some u => rw [w.sub p u e] at hp; cases hp
  have hf : p ≠ c.f := fun e => w.hf (e ▸ hp)
  have up : ∀ b u, H b = some u → upd H p o b = some u := fun b u q => by rw [upd_ne (ne_of_none q hp)]; exact q
  have e : Ext c.f Z H Z (upd H p o) := ⟨fun _ _ q => q, fun b u _ q => up b u q, fun b hb => by
    cases e : H b with
    | none => exact absurd e hb
    | some u => rw [up b u e]; simp, fun _ _ q => q, .same (upd_ne (Ne.symm hf))⟩
  refine h _ Z _ e ⟨fun b u q => up b u (w.sub b u q), w.zf, ?_, w.ok⟩ ?_
  · obtain ⟨s, h1, h2⟩ := w.feed
    exact ⟨s, h1, up _ _ h2⟩
  · have hm : d.mt = true := by cases rc <;> rfl
    unfold Res
    rw [if_pos hm]
    exact ⟨p, o, rfl, hp, hz, hf, upd_same, rc⟩
/-- a new tuple, frozen -/
theorem Post.newT {m : Md} {vs : List V} {ds : List D} {φ : Fd} {Z H : Hp} {σ : L2.St} {Q : VK} (w : Wf c.K c.f Z H φ) (rc : Reps c.K c.f Z vs ds) (h : Post c m W (.ok (.tup ds) φ) σ Z H Q) : ∀ p, H p = none → Q (.ref p) (upd H p (.tup vs)) := by
  intro p hp
  have hz : Z p = none := by
    cases e : Z p with
    | none => rfl
    | some u => rw [w.sub p u e] at hp; cases hp
  have hf : p ≠ c.f := fun e => w.hf (e ▸ hp)
  have up : ∀ b u, H b = some u → upd H p (.tup vs) b = some u := fun b u q => by rw [upd_ne (ne_of_none q hp)]; exact q
  have upz : ∀ b u, Z b = some u → upd Z p (.tup vs) b = some u := fun b u q => by rw [upd_ne (ne_of_none q hz)]; exact q
  have e : Ext c.f Z H (upd Z p (.tup vs)) (upd H p (.tup vs)) := ⟨upz, fun b u _ q => up b u q, fun b hb => by
    cases e : H b with
    | none => exact absurd e hb
    | some u => rw [up b u e]; simp, fun b hb q => by rw [upd_ne (fun z => hb (by rw [z]; exact hp))]; exact q, .same (upd_ne (Ne.symm hf))⟩
  refine h _ _ _ e ⟨fun b u q => ?_, ?_, ?_, w.ok⟩ ?_
  · by_cases hb : b = p
    · subst hb; rw [upd_same] at q; cases q; exact upd_same
    · rw [upd_ne hb] at q; exact up b u (w.sub b u q)
  · rw [upd_ne (Ne.symm hf)]; exact w.zf
  · obtain ⟨s, h1, h2⟩ := w.feed
    exact ⟨s, upz _ _ h1, up _ _ h2⟩
  · exact Res.of_flat (.tup (SqT.of upd_same) (rc.mono upz)) rfl
theorem iteO_ok {b : Prop} [Decidable b] {α : Type} {a : α} {φ : Fd} {E : O α → Prop} (h : E (if b then .ok a φ else .bad)) (hb : ¬ E .bad) : b ∧ E (.ok a φ) := by
  by_cases hc : b
  · rw [if_pos hc] at h; exact ⟨hc, h⟩
  · rw [if_neg hc] at h; exact absurd h hb
theorem x_lst {es : List Expr} {A : SA} (ha : AX X c own .s W es A) : EX X c own .o W (.List es pos) (eLst A) := by
  refine PE.weak (pe_lst ha) ?_
  rintro σ H Q ⟨Z, ρ, φ, R, h⟩
  refine ⟨Z, ρ, φ, R, ?_⟩
  refine PostA.bindE h fun ds φ1 xs Z1 H1 e1 w1 r1 h1 => ?_
  obtain ⟨hl, h2⟩ := iteO_ok (E := fun o => Post c .o W o σ Z1 H1 Q) h1 fun z => z
  exact ⟨by rw [r1.length]; exact hl, h2.newO w1 (.lst r1.reps)⟩
theorem x_tup {es : List Expr} {A : SA} {x1} (ha : AX X c own .s W es A) : EX X c own m W (.Tuple es x1 pos) (eTup A) := by
  refine PE.weak (pe_tup ha) ?_
  rintro σ H Q ⟨Z, ρ, φ, R, h⟩
  refine ⟨Z, ρ, φ, R, ?_⟩
  refine PostA.bindE h fun ds φ1 xs Z1 H1 e1 w1 r1 h1 => ?_
  obtain ⟨hl, h2⟩ := iteO_ok (E := fun o => Post c m W o σ Z1 H1 Q) h1 fun z => z
  exact ⟨by rw [r1.length]; exact hl, h2.newT w1 r1.reps⟩
/-! calls of built-ins -/
def CallG (r : List V → Hp → VK → Prop) (m : Md) (c : Ct) (g : List D → Option D) : Prop :=
  ∀ (Z H : Hp) (φ : Fd) (xs : List V) (ds : List D) (z : D) (W : WX) (σ : L2.St) (Q : VK), Wf c.K c.f Z H φ → RAll .p c.K c.f H Z H xs ds → g ds = some z → Post c m W (.ok z φ) σ Z H Q → r xs H Q
def eCB (g : List D → Option D) (A : SA) : SX := fun ρ φ => (A ρ φ).bind fun ds φ1 => ofO (g ds) φ1
theorem cb_core {r : List V → Hp → VK → Prop} {g : List D → Option D} {A : SA} (hg : CallG r m c g) {σ : L2.St} {H : Hp} {Q : VK} (h : tE c own m W (eCB g A) σ H Q) : tCB r (tA c own .p W A) σ H Q := by
  obtain ⟨Z, ρ, φ, R, h⟩ := h
  refine ⟨Z, ρ, φ, R, PostA.bindE h fun ds φ1 xs Z1 H1 e1 w1 r1 h1 => ?_⟩
  obtain ⟨z, hz, h3⟩ := ofO_ok (E := fun o => Post c m W o σ Z1 H1 Q) h1 fun z => z
  exact hg Z1 H1 φ1 xs ds z W σ Q w1 (r1.any (by decide)) hz h3
theorem x_callB {id : String} {r : List V → Hp → VK → Prop} {g : List D → Option D} {x : Str} {p : Pos} {e : Expr} {es : List Expr} {A : SA} (hc : CallR X (.builtin id) r) (hG : CallG r m c g) (hm : X.mg x = none) (hv : bootBuiltins x = some (.builtin id)) (ha : AX X c own .p W (e :: es) A)
    (hg : Gl X x := by rfl) (hn : x ≠ "__name__" := by decide) (hdb : (x == ("__debug__" : Str)) = false := by decide)
    (he : starEach (e :: es) X.env = (false, eval e X.env) :: starEach es X.env := by rfl) (hpl : (backTo pos (starEach es X.env)).any (·.1) = false := by rfl) : EX X c own m W (.Call (.Name x p) (e :: es) [] pos) (eCB g A) :=
  PE.weak (pe_callB hc hg hm hv ha hn hdb he hpl) fun _ _ _ h => cb_core hG h
theorem x_callT {T : String} {r : List V → Hp → VK → Prop} {g : List D → Option D} {x : Str} {p : Pos} {e : Expr} {es : List Expr} {A : SA} (hc : CallR X (.type T) r) (hG : CallG r m c g) (hm : X.mg x = none) (hv : bootBuiltins x = some (.type T)) (ha : AX X c own .p W (e :: es) A)
    (hg : Gl X x := by rfl) (hn : x ≠ "__name__" := by decide) (hdb : (x == ("__debug__" : Str)) = false := by decide)
    (he : starEach (e :: es) X.env = (false, eval e X.env) :: starEach es X.env := by rfl) (hpl : (backTo pos (starEach es X.env)).any (·.1) = false := by rfl) : EX X c own m W (.Call (.Name x p) (e :: es) [] pos) (eCB g A) :=
  PE.weak (pe_callTy hc hg hm hv ha hn hdb he hpl) fun _ _ _ h => cb_core hG h

/-! tests -/
abbrev BX (X : Cx) (c : Ct) (own : List Ms) (W : WX) (e : Expr) (A : SB) : Prop := PT X e (tB c own W A)
def bVal (A : SX) : SB := fun ρ φ => (A ρ φ).bind fun d φ1 => match d with | .bl b => .ok b φ1 | _ => .bad
/-- an expression that gives True or False, as a test -/
theorem b_val {e : Expr} {A : SX} (h : EX X c own m W e A) (he : ∀ whole, isTrue e X.env whole = (do let v ← whole; standAt e.pos; holding [v] (truthy v)) := by intro _; rfl) : BX X c own W e (bVal A) := by
  refine PT.weak (pt_val h he) ?_
  rintro σ H Q ⟨Z, ρ, φ, R, h⟩
  refine ⟨Z, ρ, φ, R, ?_⟩
  refine Post.bindB h fun d φ1 v Z1 H1 e1 w1 r1 h1 => ?_
  cases d with
  | bl b => exact ⟨b, r1.bl, h1 Z1 H1 .refl w1⟩
  | _ => exact h1.elim
def bCmp (g : D → D → Option D) (A B : SX) : SB := bVal (eBin g A B)
/-- a comparison as a test -/
theorem b_cmp {op : CmpOp} {r : R2} {g : D → D → Option D} {a b : Expr} {A B : SX} (ho : OpR X (compareOp op) r) (hg : OpG r .o c g) (ha : EX X c own .p W a A) (hb : EX X c own .p W b B) (hm : behindInMarks op b = false) :
    BX X c own W (.Compare a [op] [b] pos) (bCmp g A B) := by
  refine PT.weak (pt_cmpR ho ha hb hm) ?_
  rintro σ H Q ⟨Z, ρ, φ, R, h⟩
  show tOp r (tE c own .p W A) (tE c own .p W B) σ H fun x H' => ∃ k, x = .bl k ∧ Q k H'
  refine bin_core (m := .o) hg ⟨Z, ρ, φ, R, ?_⟩
  refine Post.bindB h fun d φ1 v Z1 H1 e1 w1 r1 h1 => ?_
  cases d with
  | bl b => exact ⟨b, r1.bl, h1 Z1 H1 .refl w1⟩
  | _ => exact h1.elim
/-! truth of any value -/
def truD : D → Option Bool
  | .non => some false
  | .bl b => some b
  | .int i => some (i != 0)
  | .str y => if y.length ≤ sizeLine then some ((y.length : Int) != 0) else none
  | .lst l => some (!l.isEmpty)
  | .tup l => some (!l.isEmpty)
  | .dk l => some (!l.isEmpty)
  | _ => none
def bTru (A : SX) : SB := fun ρ φ => (A ρ φ).bind fun d φ1 => ofO (truD d) φ1
theorem isEmpty_reps {K : PySem.W.Frag} {f : Addr} {Z : Hp} {vs : List V} {ds : List D} (h : Reps K f Z vs ds) : (!ds.isEmpty) = !vs.isEmpty := by cases h <;> rfl
theorem isEmpty_kreps {K : PySem.W.Frag} {f : Addr} {Z : Hp} {vs : List (Key × V)} {ds : List (Key × D)} (h : KReps K f Z vs ds) : (!ds.isEmpty) = !vs.isEmpty := by cases h <;> rfl
theorem tru_core {Z H : Hp} {φ : Fd} {v : V} {d : D} {k : Bool} (hK : X.K = c.K) (w : Wf c.K c.f Z H φ) (r : Res .p c.K c.f H Z H v d) (e : truD d = some k) : TruV X.K v H k := by
  cases d with
  | non => cases e; rw [r.non]; rfl
  | bl b => cases e; rw [r.bl]; rfl
  | int i => cases e; rw [r.int]; rfl
  | str y =>
    rw [r.str]
    have e' : (if y.length ≤ sizeLine then some ((y.length : Int) != 0) else none) = some k := e
    by_cases hy : y.length ≤ sizeLine
    · rw [if_pos hy] at e'; cases e'; exact ⟨hy, rfl⟩
    · rw [if_neg hy] at e'; cases e'
  | lst l =>
    cases e
    obtain ⟨a, vs, rfl, ha, q⟩ := r.lst w
    exact .inl ⟨vs, SqL.of ha, isEmpty_reps q⟩
  | tup l =>
    cases e
    obtain ⟨a, vs, rfl, ha, q⟩ := r.tup
    exact .inr (.inl ⟨vs, by rw [hK]; exact w.sqT ha, isEmpty_reps q⟩)
  | dk l =>
    cases e
    obtain ⟨a, vs, rfl, ha, q⟩ := r.dk w
    exact .inr (.inr ⟨vs, ha, isEmpty_kreps q⟩)
  | dt l => cases e
  | feed => cases e
  | exn _ _ => cases e
theorem b_tru (hK : X.K = c.K) {e : Expr} {A : SX} (h : EX X c own .p W e A) (he : ∀ whole, isTrue e X.env whole = (do let v ← whole; standAt e.pos; holding [v] (truthy v)) := by intro _; rfl) : BX X c own W e (bTru A) := by
  refine PT.weak (pt_truth h he) ?_
  rintro σ H Q ⟨Z, ρ, φ, R, h⟩
  refine ⟨Z, ρ, φ, R, ?_⟩
  refine Post.bindB h fun d φ1 v Z1 H1 e1 w1 r1 h1 => ?_
  obtain ⟨k, hk, h2⟩ := ofO_ok (E := fun o => PostB c W o σ Z1 H1 Q) h1 fun z => z
  exact ⟨k, tru_core hK w1 (r1.any (by decide)) hk, h2 Z1 H1 .refl w1⟩
/-! and, or, not, if .. else -/
def bAnd (A B : SB) : SB := fun ρ φ => (A ρ φ).bind fun b φ1 => if b = true then B ρ φ1 else .ok false φ1
def bOr (A B : SB) : SB := fun ρ φ => (A ρ φ).bind fun b φ1 => if b = true then .ok true φ1 else B ρ φ1
def bNot (A : SB) : SB := fun ρ φ => (A ρ φ).bind fun b φ1 => .ok (!b) φ1
abbrev WW (X : Cx) (c : Ct) (own : List Ms) (W : WX) (e : Expr) (A : SB) : Prop := PW X e (tB c own W A)
section
variable {a b : Expr} {rest : List Expr} {A B : SB}
theorem w_and1 (h : BX X c own W a A) : WW X c own W (.BoolOp .And [a] pos) A := pw_and1 h
theorem w_or1 (h : BX X c own W a A) : WW X c own W (.BoolOp .Or [a] pos) A := pw_or1 h
theorem w_and (ha : BX X c own W a A) (hb : WW X c own W (.BoolOp .And (b :: rest) pos) B) : WW X c own W (.BoolOp .And (a :: b :: rest) pos) (bAnd A B) := by
  refine PW.weak (pw_and ha hb) ?_
  rintro σ H Q ⟨Z, ρ, φ, R, h⟩
  refine ⟨Z, ρ, φ, R, PostB.bindB h fun b φ1 Z1 H1 e1 w1 h1 => ?_⟩
  cases b with
  | true => exact ⟨Z1, ρ, φ1, R.more e1 w1, h1⟩
  | false => exact h1 Z1 H1 .refl w1
theorem w_or (ha : BX X c own W a A) (hb : WW X c own W (.BoolOp .Or (b :: rest) pos) B) : WW X c own W (.BoolOp .Or (a :: b :: rest) pos) (bOr A B) := by
  refine PW.weak (pw_or ha hb) ?_
  rintro σ H Q ⟨Z, ρ, φ, R, h⟩
  refine ⟨Z, ρ, φ, R, PostB.bindB h fun b φ1 Z1 H1 e1 w1 h1 => ?_⟩
  cases b with
  | false => exact ⟨Z1, ρ, φ1, R.more e1 w1, h1⟩
  | true => exact h1 Z1 H1 .refl w1
theorem b_pw (h : WW X c own W a A) : BX X c own W a A := PW.pt h
theorem b_not (ha : BX X c own W a A) : BX X c own W (.UnaryOp .Not a pos) (bNot A) := by
  refine PT.weak (pt_not ha) ?_
  rintro σ H Q ⟨Z, ρ, φ, R, h⟩
  exact ⟨Z, ρ, φ, R, PostB.bindB h fun b φ1 Z1 H1 e1 w1 h1 => h1 Z1 H1 .refl w1⟩
def eIf (T : SB) (A B : SX) : SX := fun ρ φ => (T ρ φ).bind fun b φ1 => if b = true then A ρ φ1 else B ρ φ1
theorem x_if {t a b : Expr} {T : SB} {A B : SX} (ht : BX X c own W t T) (ha : EX X c own m W a A) (hb : EX X c own m W b B) : EX X c own m W (.IfExp t a b pos) (eIf T A B) := by
  refine PE.weak (pe_ifExp ht ha hb) ?_
  rintro σ H Q ⟨Z, ρ, φ, R, h⟩
  refine ⟨Z, ρ, φ, R, PostB.bindE h fun b φ1 Z1 H1 e1 w1 h1 => ?_⟩
  cases b with
  | true => exact ⟨Z1, ρ, φ1, R.more e1 w1, h1⟩
  | false => exact ⟨Z1, ρ, φ1, R.more e1 w1, h1⟩
/-! .. as values -/
def eAnd (A B : SX) : SX := fun ρ φ => (A ρ φ).bind fun d φ1 => match d with | .bl true => B ρ φ1 | .bl false => .ok (.bl false) φ1 | _ => .bad
def eOr (A B : SX) : SX := fun ρ φ => (A ρ φ).bind fun d φ1 => match d with | .bl false => B ρ φ1 | .bl true => .ok (.bl true) φ1 | _ => .bad
def eNot (A : SX) : SX := fun ρ φ => (A ρ φ).bind fun d φ1 => match d with | .bl b => .ok (.bl (!b)) φ1 | _ => .bad
theorem x_one {op} {A : SX} (h : EX X c own m W a A) : EX X c own m W (.BoolOp op [a] pos) A := pe_one h
theorem x_and {A B : SX} (ha : EX X c own .p W a A) (hb : EX X c own m W (.BoolOp .And (b :: rest) pos) B) : EX X c own m W (.BoolOp .And (a :: b :: rest) pos) (eAnd A B) := by
  refine PE.weak (pe_and ha hb) ?_
  rintro σ H Q ⟨Z, ρ, φ, R, h⟩
  refine ⟨Z, ρ, φ, R, Post.bindE h fun d φ1 x Z1 H1 e1 w1 r1 h1 => ?_⟩
  cases d with
  | bl b =>
    cases b with
    | true => exact ⟨true, r1.bl, ⟨Z1, ρ, φ1, R.more e1 w1, h1⟩⟩
    | false => exact ⟨false, r1.bl, h1 _ Z1 H1 .refl w1 (Res.of_flat (.bl false) rfl)⟩
  | _ => exact h1.elim
theorem x_or {A B : SX} (ha : EX X c own .p W a A) (hb : EX X c own m W (.BoolOp .Or (b :: rest) pos) B) : EX X c own m W (.BoolOp .Or (a :: b :: rest) pos) (eOr A B) := by
  refine PE.weak (pe_or ha hb) ?_
  rintro σ H Q ⟨Z, ρ, φ, R, h⟩
  refine ⟨Z, ρ, φ, R, Post.bindE h fun d φ1 x Z1 H1 e1 w1 r1 h1 => ?_⟩
  cases d with
  | bl b =>
    cases b with
    | false => exact ⟨false, r1.bl, ⟨Z1, ρ, φ1, R.more e1 w1, h1⟩⟩
    | true => exact ⟨true, r1.bl, h1 _ Z1 H1 .refl w1 (Res.of_flat (.bl true) rfl)⟩
  | _ => exact h1.elim
theorem x_not {A : SX} (ha : EX X c own .p W a A) : EX X c own m W (.UnaryOp .Not a pos) (eNot A) := by
  refine PE.weak (pe_not ha) ?_
  rintro σ H Q ⟨Z, ρ, φ, R, h⟩
  refine ⟨Z, ρ, φ, R, Post.bindE h fun d φ1 x Z1 H1 e1 w1 r1 h1 => ?_⟩
  cases d with
  | bl b => exact ⟨b, r1.bl, h1 _ Z1 H1 .refl w1 (Res.of_flat (.bl _) rfl)⟩
  | _ => exact h1.elim
end
end
end Pf

set_option Elab.async false
set_option linter.all false
set_option maxRecDepth 100000
set_option maxHeartbeats 4000000
namespace Pf
open PySem PySem.Spec PyProof.Rows L2

theorem Post.now {c : Ct} {m : Md} {W : WX} {z : D} {φ : Fd} {σ : L2.St} {Z H : Hp} {Q : VK} {v : V} (h : Post c m W (.ok z φ) σ Z H Q) (w : Wf c.K c.f Z H φ) (r : Res m c.K c.f H Z H v z) : Q v H := h v Z H .refl w r
theorem Post.nowI {c : Ct} {m : Md} {W : WX} {i : Int} {φ : Fd} {σ : L2.St} {Z H : Hp} {Q : VK} (h : Post c m W (.ok (.int i) φ) σ Z H Q) (w : Wf c.K c.f Z H φ) : Q (.int i) H := h _ Z H .refl w (Res.of_flat (.int i) rfl)
theorem Post.nowB {c : Ct} {m : Md} {W : WX} {b : Bool} {φ : Fd} {σ : L2.St} {Z H : Hp} {Q : VK} (h : Post c m W (.ok (.bl b) φ) σ Z H Q) (w : Wf c.K c.f Z H φ) : Q (.bl b) H := h _ Z H .refl w (Res.of_flat (.bl b) rfl)
theorem Post.nowS {c : Ct} {m : Md} {W : WX} {b : Str} {φ : Fd} {σ : L2.St} {Z H : Hp} {Q : VK} (h : Post c m W (.ok (.str b) φ) σ Z H Q) (w : Wf c.K c.f Z H φ) : Q (.str b) H := h _ Z H .refl w (Res.of_flat (.str b) rfl)

/-! ## numbers -/
def gI (g : Int → Int → Int) : D → D → Option D
  | .int i, .int j => some (.int (g i j))
  | _, _ => none
def gIB (g : Int → Int → Bool) : D → D → Option D
  | .int i, .int j => some (.bl (g i j))
  | _, _ => none
def gIc (C : Int → Int → Bool) (g : Int → Int → Int) : D → D → Option D
  | .int i, .int j => if C i j = true then some (.int (g i j)) else none
  | _, _ => none
theorem gI_ok {m : Md} {c : Ct} {g : Int → Int → Int} : OpG (rI0 fun i j => .int (g i j)) m c (gI g) := by
  intro Z H φ x y d e z W σ Q w rx ry hg h
  cases d with
  | int i =>
    cases e with
    | int j => cases hg; exact ⟨i, j, rx.int, ry.int, h.nowI w⟩
    | _ => cases hg
  | _ => cases hg
theorem gIB_ok {m : Md} {c : Ct} {g : Int → Int → Bool} : OpG (rI0 fun i j => .bl (g i j)) m c (gIB g) := by
  intro Z H φ x y d e z W σ Q w rx ry hg h
  cases d with
  | int i =>
    cases e with
    | int j => cases hg; exact ⟨i, j, rx.int, ry.int, h.nowB w⟩
    | _ => cases hg
  | _ => cases hg
theorem gIc_ok {m : Md} {c : Ct} {C : Int → Int → Bool} {C' : Int → Int → Prop} {g : Int → Int → Int} (hC : ∀ i j, C i j = true → C' i j) : OpG (rI C' fun i j => .int (g i j)) m c (gIc C g) := by
  intro Z H φ x y d e z W σ Q w rx ry hg h
  cases d with
  | int i =>
    cases e with
    | int j =>
      have hg' : (if C i j = true then some (D.int (g i j)) else none) = some z := hg
      by_cases q : C i j = true
      · rw [if_pos q] at hg'; cases hg'
        exact ⟨i, j, rx.int, ry.int, hC _ _ q, h.nowI w⟩
      · rw [if_neg q] at hg'; cases hg'
    | _ => cases hg
  | _ => cases hg
def gSub : D → D → Option D := gI fun i j => i - j
def cDiv (i j : Int) : Bool := decide (j ≠ 0) && decide (j.natAbs < 1073741824)
def gDiv : D → D → Option D := gIc cDiv fun i j => i.fdiv j
def gMod : D → D → Option D := gIc (fun _ j => decide (j ≠ 0)) fun i j => i.fmod j
def cPow (i j : Int) : Bool := decide (0 ≤ j) && decide (j ≤ 1000000) && decide (i.natAbs < 18446744073709551616)
def gPow : D → D → Option D := gIc cPow fun i j => i ^ j.toNat
def gShl : D → D → Option D := gIc cPow fun i j => i * 2 ^ j.toNat
def gShr : D → D → Option D := gIc (fun _ j => decide (0 ≤ j)) fun i j => i / 2 ^ j.toNat
def gAnd : D → D → Option D := gI Builtin.bitAnd
def gLt : D → D → Option D := gIB fun i j => decide (i < j)
def gLe : D → D → Option D := gIB fun i j => decide (i ≤ j)
def gGt : D → D → Option D := gIB fun i j => decide (j < i)
def gGe : D → D → Option D := gIB fun i j => decide (j ≤ i)
section
variable {X : Cx} {c : Ct} {own : List Ms} {W : WX} {a b : Expr} {A B : SX} {pos : Pos}
theorem x_sub (ha : EX X c own .p W a A) (hb : EX X c own .p W b B) : EX X c own .o W (.BinOp a .Sub b pos) (eBin gSub A B) := x_bin op_sub gI_ok ha hb
theorem x_div (ha : EX X c own .p W a A) (hb : EX X c own .p W b B) : EX X c own .o W (.BinOp a .FloorDiv b pos) (eBin gDiv A B) :=
  x_bin op_fdivN (gIc_ok fun i j h => by unfold cDiv at h; simpa [CDivN] using h) ha hb
theorem x_mod (ha : EX X c own .p W a A) (hb : EX X c own .p W b B) : EX X c own .o W (.BinOp a .Mod b pos) (eBin gMod A B) :=
  x_bin op_modN (gIc_ok fun i j h => by simpa using h) ha hb
theorem x_pow (ha : EX X c own .p W a A) (hb : EX X c own .p W b B) : EX X c own .o W (.BinOp a .Pow b pos) (eBin gPow A B) :=
  x_bin op_pow (gIc_ok fun i j h => by unfold cPow at h; simpa [CPow, and_assoc] using h) ha hb
theorem x_shl (ha : EX X c own .p W a A) (hb : EX X c own .p W b B) : EX X c own .o W (.BinOp a .LShift b pos) (eBin gShl A B) :=
  x_bin op_shl (gIc_ok fun i j h => by unfold cPow at h; simpa [CPow, and_assoc] using h) ha hb
theorem x_shr (ha : EX X c own .p W a A) (hb : EX X c own .p W b B) : EX X c own .o W (.BinOp a .RShift b pos) (eBin gShr A B) :=
  x_bin op_shr (gIc_ok fun i j h => by simpa using h) ha hb
theorem x_band (ha : EX X c own .p W a A) (hb : EX X c own .p W b B) : EX X c own .o W (.BinOp a .BitAnd b pos) (eBin gAnd A B) := x_bin op_and gI_ok ha hb
/-! comparisons of ints -/
theorem x_lt (ha : EX X c own .p W a A) (hb : EX X c own .p W b B) : EX X c own .o W (.Compare a [.Lt] [b] pos) (eBin gLt A B) := x_cmp op_lt gIB_ok ha hb (nomark _)
theorem x_le (ha : EX X c own .p W a A) (hb : EX X c own .p W b B) : EX X c own .o W (.Compare a [.LtE] [b] pos) (eBin gLe A B) := x_cmp op_le gIB_ok ha hb (nomark _)
theorem x_gt (ha : EX X c own .p W a A) (hb : EX X c own .p W b B) : EX X c own .o W (.Compare a [.Gt] [b] pos) (eBin gGt A B) := x_cmp op_gt gIB_ok ha hb (nomark _)
theorem x_ge (ha : EX X c own .p W a A) (hb : EX X c own .p W b B) : EX X c own .o W (.Compare a [.GtE] [b] pos) (eBin gGe A B) := x_cmp op_ge gIB_ok ha hb (nomark _)
theorem b_lt (ha : EX X c own .p W a A) (hb : EX X c own .p W b B) : BX X c own W (.Compare a [.Lt] [b] pos) (bCmp gLt A B) := b_cmp op_lt gIB_ok ha hb (nomark _)
theorem b_le (ha : EX X c own .p W a A) (hb : EX X c own .p W b B) : BX X c own W (.Compare a [.LtE] [b] pos) (bCmp gLe A B) := b_cmp op_le gIB_ok ha hb (nomark _)
theorem b_gt (ha : EX X c own .p W a A) (hb : EX X c own .p W b B) : BX X c own W (.Compare a [.Gt] [b] pos) (bCmp gGt A B) := b_cmp op_gt gIB_ok ha hb (nomark _)
theorem b_ge (ha : EX X c own .p W a A) (hb : EX X c own .p W b B) : BX X c own W (.Compare a [.GtE] [b] pos) (bCmp gGe A B) := b_cmp op_ge gIB_ok ha hb (nomark _)
/-! -a -/
def gNeg : D → Option D
  | .int i => some (.int (-i))
  | _ => none
theorem gNeg_ok {m : Md} : UnG (rU fun i => .int (-i)) m c gNeg := by
  intro Z H φ x d z W σ Q w rx hg h
  cases d with
  | int i => cases hg; exact ⟨i, rx.int, h.nowI w⟩
  | _ => cases hg
theorem x_neg (ha : EX X c own .p W a A) : EX X c own .o W (.UnaryOp .USub a pos) (eUn gNeg A) := x_un un_neg gNeg_ok ha
end

/-! ## + and * -/
def gAdd : D → D → Option D
  | .int i, .int j => some (.int (i + j))
  | .lst l, .lst k => if l.length + k.length ≤ sizeLine then some (.lst (l ++ k)) else none
  | .str x, .str y => if x.length + y.length ≤ sizeLine then some (.str (x ++ y)) else none
  | .tup l, .tup k => if l.length + k.length ≤ sizeLine ∧ l.isEmpty = false then some (.tup (l ++ k)) else none
  | _, _ => none
def cMul (i j : Int) : Bool := decide (i.natAbs < 18446744073709551616) || decide (j.natAbs < 18446744073709551616)
def gMul : D → D → Option D
  | .int i, .int j => if cMul i j = true then some (.int (i * j)) else none
  | .lst l, .int k => if -9223372036854775808 ≤ k ∧ k < 9223372036854775808 ∧ l.length * k.toNat ≤ sizeLine then some (.lst (List.replicate k.toNat l).flatten) else none
  | _, _ => none
theorem ifs {α : Type} {p : Prop} [Decidable p] {a z : α} (h : (if p then some a else none) = some z) : p ∧ a = z := by
  by_cases q : p
  · rw [if_pos q] at h; exact ⟨q, Option.some.inj h⟩
  · rw [if_neg q] at h; cases h
theorem Reps.flat {K : PySem.W.Frag} {f : Addr} {Z : Hp} {vs : List V} {ds : List D} (r : Reps K f Z vs ds) : ∀ n, Reps K f Z (List.replicate n vs).flatten (List.replicate n ds).flatten
  | 0 => .nil
  | n + 1 => by rw [List.replicate_succ, List.replicate_succ, List.flatten_cons, List.flatten_cons]; exact r.app (r.flat n)
section
variable {X : Cx} {c : Ct} {own : List Ms} {W : WX} {a b : Expr} {A B : SX} {pos : Pos}
def rAddD (K : PySem.W.Frag) : R2 := fun x y H Q => (∃ i j, x = .int i ∧ y = .int j ∧ Q (.int (i + j)) H) ∨ rCat x y H Q ∨ (∃ i j, x = .str i ∧ y = .str j ∧ i.length + j.length ≤ sizeLine ∧ Q (.str (i ++ j)) H) ∨ rCatT K x y H Q
theorem op_addD : OpR X (binaryOp .Add) (rAddD X.K) := OpR.or op_add (OpR.or op_cat (OpR.or op_add_str op_catT))
theorem gAdd_ok : OpG (rAddD c.K) .o c gAdd := by
  intro Z H φ x y d e z W σ Q w rx ry hg h
  cases d with
  | int i =>
    cases e with
    | int j => cases hg; exact .inl ⟨i, j, rx.int, ry.int, h.nowI w⟩
    | _ => cases hg
  | str i =>
    cases e with
    | str j =>
      obtain ⟨hz, rfl⟩ := ifs hg
      exact .inr (.inr (.inl ⟨i, j, rx.str, ry.str, hz, h.nowS w⟩))
    | _ => cases hg
  | lst l =>
    cases e with
    | lst k =>
      obtain ⟨hz, rfl⟩ := ifs hg
      obtain ⟨a, vs, rfl, ha, q⟩ := rx.lst w
      obtain ⟨b, us, rfl, hb, q'⟩ := ry.lst w
      exact .inr (.inl ⟨a, b, vs, us, rfl, rfl, ha, hb, by rw [q.length, q'.length]; exact hz, h.newO w (.lst (q.app q'))⟩)
    | _ => cases hg
  | tup l =>
    cases e with
    | tup k =>
      obtain ⟨⟨hz, hne⟩, rfl⟩ := ifs hg
      obtain ⟨a, vs, rfl, ha, q⟩ := rx.tup
      obtain ⟨b, us, rfl, hb, q'⟩ := ry.tup
      refine .inr (.inr (.inr ⟨a, b, vs, us, rfl, rfl, w.sqT ha, w.sqT hb, ?_, by rw [q.length, q'.length]; exact hz, ?_, fun _ => h.newT w (q.app q')⟩))
      · rintro rfl
        cases q
        cases hne
      · rintro rfl
        cases q'
        rw [List.append_nil] at h
        exact h.now w (Res.of_flat (.tup ha q) rfl)
    | _ => cases hg
  | _ => cases hg
theorem x_add (hK : X.K = c.K) (ha : EX X c own .p W a A) (hb : EX X c own .p W b B) : EX X c own .o W (.BinOp a .Add b pos) (eBin gAdd A B) := x_bin op_addD (by rw [hK]; exact gAdd_ok) ha hb
def rMulD : R2 := fun x y H Q => rI CMul (fun i j => .int (i * j)) x y H Q ∨ rRep x y H Q
theorem op_mulD : OpR X (binaryOp .Mult) rMulD := OpR.or op_mul op_rep
theorem cMul_ok {i j : Int} (h : cMul i j = true) : CMul i j := by
  unfold cMul at h
  simp only [Bool.or_eq_true, decide_eq_true_eq] at h
  rcases h with h | h
  · exact .inl (by omega)
  · exact .inr (by omega)
theorem gMul_ok : OpG rMulD .o c gMul := by
  intro Z H φ x y d e z W σ Q w rx ry hg h
  cases d with
  | int i =>
    cases e with
    | int j =>
      obtain ⟨hz, rfl⟩ := ifs hg
      exact .inl ⟨i, j, rx.int, ry.int, cMul_ok hz, h.nowI w⟩
    | _ => cases hg
  | lst l =>
    cases e with
    | int k =>
      obtain ⟨⟨h1, h2, hz⟩, rfl⟩ := ifs hg
      obtain ⟨a, vs, rfl, ha, q⟩ := rx.lst w
      exact .inr ⟨a, k, vs, rfl, ry.int, ha, h1, h2, by rw [q.length]; exact hz, h.newO w (.lst (q.flat _))⟩
    | _ => cases hg
  | _ => cases hg
theorem x_mul (ha : EX X c own .p W a A) (hb : EX X c own .p W b B) : EX X c own .o W (.BinOp a .Mult b pos) (eBin gMul A B) := x_bin op_mulD gMul_ok ha hb
end

/-! ## equality -/
mutual
def D.py : D → PyData
  | .non => .none
  | .bl b => .bool b
  | .int i => .int i
  | .str x => .str x
  | .lst l => .list (D.pys l)
  | .tup l => .tuple (D.pys l)
  | _ => .dict []
def D.pys : List D → List PyData
  | [] => []
  | d :: ds => D.py d :: D.pys ds
end
theorem sqL_of {K : PySem.W.Frag} {H : Hp} {a : Addr} {vs : List V} (h : H a = some (.lst vs)) : SqL K H a vs := SqL.of h
mutual
theorem Rep.dp {K : PySem.W.Frag} {f : Addr} {Z : Hp} : ∀ {v : V} {d : D}, Rep K f Z v d → d.py.canLay0 = true → Dp K Z v d.py
  | _, _, .non, _ => .non
  | _, _, .bl b, _ => .bl b
  | _, _, .int b, _ => .int b
  | _, _, .str b, _ => .str b
  | _, _, .cel e q, hc => RepC.dp q e hc
  | _, _, .tup e q, hc => .tup e (Reps.dp q hc)
  | _, _, .feed, hc => (Bool.false_ne_true hc).elim
theorem RepC.dp {K : PySem.W.Frag} {f : Addr} {Z : Hp} : ∀ {o : HO} {d : D}, RepC K f Z o d → ∀ {a : Addr}, Z a = some o → d.py.canLay0 = true → Dp K Z (.ref a) d.py
  | _, _, .lst q, _, e, hc => .lst (SqL.of e) (Reps.dp q hc)
  | _, _, .dk _, _, _, hc => (Bool.false_ne_true hc).elim
  | _, _, .dt _, _, _, hc => (Bool.false_ne_true hc).elim
theorem Reps.dp {K : PySem.W.Frag} {f : Addr} {Z : Hp} : ∀ {vs : List V} {ds : List D}, Reps K f Z vs ds → PyData.canLayAll0 (D.pys ds) = true → DpAll K Z vs (D.pys ds)
  | _, _, .nil, _ => .nil
  | _, _, .cons r s, hc => by
    have hc' := (Bool.and_eq_true_iff.mp hc)
    exact .cons (Rep.dp r hc'.1) (Reps.dp s hc'.2)
end
theorem sqL_mono {K : PySem.W.Frag} {Z Z' : Hp} (h : ∀ a o, Z a = some o → Z' a = some o) {a : Addr} {vs : List V} (q : SqL K Z a vs) : SqL K Z' a vs := by
  rcases q with (q | ⟨o, q⟩) | q
  · exact .inl (.inl (h _ _ q))
  · exact .inl (.inr ⟨o, h _ _ q⟩)
  · exact .inr q
mutual
theorem Dp.mono {K : PySem.W.Frag} {Z Z' : Hp} (h : ∀ a o, Z a = some o → Z' a = some o) : ∀ {v : V} {d : PyData}, Dp K Z v d → Dp K Z' v d
  | _, _, .non => .non
  | _, _, .bl b => .bl b
  | _, _, .int b => .int b
  | _, _, .str b => .str b
  | _, _, .lst e q => .lst (sqL_mono h e) (DpAll.mono h q)
  | _, _, .tup e q => .tup (sqT_mono h e) (DpAll.mono h q)
theorem DpAll.mono {K : PySem.W.Frag} {Z Z' : Hp} (h : ∀ a o, Z a = some o → Z' a = some o) : ∀ {v : List V} {d : List PyData}, DpAll K Z v d → DpAll K Z' v d
  | _, _, .nil => .nil
  | _, _, .cons r s => .cons (Dp.mono h r) (DpAll.mono h s)
end
section
variable {X : Cx} {c : Ct} {own : List Ms} {m : Md} {W : WX} {a b : Expr} {A B : SX} {pos : Pos}
theorem Res.dp {Z H : Hp} {φ : Fd} {v : V} {d : D} (w : Wf c.K c.f Z H φ) (r : Res .p c.K c.f H Z H v d) (hc : d.py.canLay0 = true) : Dp c.K H v d.py := by
  rcases r with r | ⟨a, o, rfl, hz, hf, ha, rc⟩
  · exact Dp.mono w.sub (Rep.dp r hc)
  · cases rc with
    | lst q => exact .lst (SqL.of ha) (DpAll.mono w.sub (Reps.dp q hc))
    | dk q => cases hc
    | dt q => cases hc
def D.shp (d : D) : Bool := SeqAt.shaped d.py
def gEq : D → D → Option D := fun d e => if d.shp && e.shp then some (.bl (PyData.eqv d.py e.py)) else none
def gNe : D → D → Option D := fun d e => if d.shp && e.shp then some (.bl (!PyData.eqv d.py e.py)) else none
theorem gEq_ok : OpG (rEqD c.K) m c gEq := by
  intro Z H φ x y d e z W σ Q w rx ry hg h
  obtain ⟨hs, rfl⟩ := ifs hg
  rw [Bool.and_eq_true] at hs
  exact ⟨_, _, rx.dp w (SeqAt.canLay_of_shaped hs.1), ry.dp w (SeqAt.canLay_of_shaped hs.2), hs.1, hs.2, h.nowB w⟩
theorem gNe_ok : OpG (rNeD c.K) m c gNe := by
  intro Z H φ x y d e z W σ Q w rx ry hg h
  obtain ⟨hs, rfl⟩ := ifs hg
  rw [Bool.and_eq_true] at hs
  exact ⟨_, _, rx.dp w (SeqAt.canLay_of_shaped hs.1), ry.dp w (SeqAt.canLay_of_shaped hs.2), hs.1, hs.2, h.nowB w⟩
theorem x_eq (hK : X.K = c.K) (hu : X.A.units + 64 < cLine) (ha : EX X c own .p W a A) (hb : EX X c own .p W b B) : EX X c own .o W (.Compare a [.Eq] [b] pos) (eBin gEq A B) := x_cmp (op_eqD hu) (by rw [hK]; exact gEq_ok) ha hb (nomark _)
theorem x_ne (hK : X.K = c.K) (hu : X.A.units + 64 < cLine) (ha : EX X c own .p W a A) (hb : EX X c own .p W b B) : EX X c own .o W (.Compare a [.NotEq] [b] pos) (eBin gNe A B) := x_cmp (op_neD hu) (by rw [hK]; exact gNe_ok) ha hb (nomark _)
theorem b_eq (hK : X.K = c.K) (hu : X.A.units + 64 < cLine) (ha : EX X c own .p W a A) (hb : EX X c own .p W b B) : BX X c own W (.Compare a [.Eq] [b] pos) (bCmp gEq A B) := b_cmp (op_eqD hu) (by rw [hK]; exact gEq_ok) ha hb (nomark _)
theorem b_ne (hK : X.K = c.K) (hu : X.A.units + 64 < cLine) (ha : EX X c own .p W a A) (hb : EX X c own .p W b B) : BX X c own W (.Compare a [.NotEq] [b] pos) (bCmp gNe A B) := b_cmp (op_neD hu) (by rw [hK]; exact gNe_ok) ha hb (nomark _)

/-! ## is None -/
def D.isNon : D → Bool
  | .non => true
  | _ => false
def gIs : D → D → Option D := fun d e => if e.isNon = true then some (.bl d.isNon) else none
def gIsNot : D → D → Option D := fun d e => if e.isNon = true then some (.bl (!d.isNon)) else none
theorem isNon_ok {Z H H0 : Hp} {v : V} {d : D} (r : Res .p c.K c.f H0 Z H v d) : decide (v = .non) = d.isNon := by
  rcases r with r | ⟨a, o, rfl, hz, hf, ha, rc⟩
  · cases r with
    | cel _ q => cases q <;> rfl
    | _ => rfl
  · cases rc <;> rfl
theorem gIs_ok : OpG (fun x y H Q => y = .non ∧ Q (.bl (decide (x = .non))) H) m c gIs := by
  intro Z H φ x y d e z W σ Q w rx ry hg h
  obtain ⟨hs, rfl⟩ := ifs hg
  have := isNon_ok ry
  rw [hs] at this
  refine ⟨of_decide_eq_true this, ?_⟩
  rw [isNon_ok rx]
  exact h.nowB w
theorem gIsNot_ok : OpG (fun x y H Q => y = .non ∧ Q (.bl (!decide (x = .non))) H) m c gIsNot := by
  intro Z H φ x y d e z W σ Q w rx ry hg h
  obtain ⟨hs, rfl⟩ := ifs hg
  have := isNon_ok ry
  rw [hs] at this
  refine ⟨of_decide_eq_true this, ?_⟩
  rw [isNon_ok rx]
  exact h.nowB w
theorem x_is (ha : EX X c own .p W a A) (hb : EX X c own .p W b B) : EX X c own .o W (.Compare a [.Is] [b] pos) (eBin gIs A B) := x_cmp op_isN gIs_ok ha hb (nomark _)
theorem x_isnot (ha : EX X c own .p W a A) (hb : EX X c own .p W b B) : EX X c own .o W (.Compare a [.IsNot] [b] pos) (eBin gIsNot A B) := x_cmp op_notN gIsNot_ok ha hb (nomark _)
theorem b_is (ha : EX X c own .p W a A) (hb : EX X c own .p W b B) : BX X c own W (.Compare a [.Is] [b] pos) (bCmp gIs A B) := b_cmp op_isN gIs_ok ha hb (nomark _)
theorem b_isnot (ha : EX X c own .p W a A) (hb : EX X c own .p W b B) : BX X c own W (.Compare a [.IsNot] [b] pos) (bCmp gIsNot A B) := b_cmp op_notN gIsNot_ok ha hb (nomark _)

/-! ## in -/
def D.flatV : D → Option V
  | .non => some .non
  | .bl b => some (.bl b)
  | .int i => some (.int i)
  | .str x => some (.str x)
  | _ => none
def flatVs : List D → Option (List V)
  | [] => some []
  | d :: ds => match d.flatV, flatVs ds with
    | some v, some vs => some (v :: vs)
    | _, _ => none
theorem flatV_ok {m : Md} {Z H H0 : Hp} {x v : V} {d : D} (e : d.flatV = some v) (r : Res m c.K c.f H0 Z H x d) : x = v ∧ L2.flatV v = true := by
  cases d with
  | non => cases e; exact ⟨r.non, rfl⟩
  | bl b => cases e; exact ⟨r.bl, rfl⟩
  | int b => cases e; exact ⟨r.int, rfl⟩
  | str b => cases e; exact ⟨r.str, rfl⟩
  | _ => cases e
theorem flatVs_ok {Z : Hp} : ∀ {xs vs : List V} {ds : List D}, flatVs ds = some vs → Reps c.K c.f Z xs ds → xs = vs ∧ vs.all L2.flatV = true
  | _, _, [], e, .nil => by cases e; exact ⟨rfl, rfl⟩
  | _, _, d :: ds, e, .cons r s => by
    unfold flatVs at e
    split at e
    · rename_i v vs h1 h2
      cases e
      obtain ⟨rfl, h3⟩ := flatV_ok (m := .s) (H0 := Z) (H := Z) h1 r
      obtain ⟨rfl, h4⟩ := flatVs_ok h2 s
      exact ⟨rfl, by rw [List.all_cons, h3, h4]; rfl⟩
    · cases e
def gInT (d : D) (l : List D) : Option Bool := match d.flatV, flatVs l with
  | some v, some vs => some (inV v vs)
  | _, _ => none
theorem gInT_ok {d : D} {l : List D} {b : Bool} (h : gInT d l = some b) : ∃ v vs, d.flatV = some v ∧ flatVs l = some vs ∧ b = inV v vs := by
  unfold gInT at h
  cases e1 : d.flatV with
  | none => rw [e1] at h; cases h
  | some v =>
    cases e2 : flatVs l with
    | none => rw [e1, e2] at h; cases h
    | some vs => rw [e1, e2] at h; cases h; exact ⟨v, vs, rfl, rfl, rfl⟩
def gInB : D → D → Option Bool
  | d, .lst l => if d.shp && (D.lst l).shp then some (l.any fun z => PyData.eqv z.py d.py) else none
  | d, .tup l => gInT d l
  | .str i, .str j => some (!(Builtin.Str.occurrences j i 0 j.length 1).isEmpty)
  | _, _ => none
def gIn (neg : Bool) : D → D → Option D := fun d e => (gInB d e).map fun b => .bl (if neg then !b else b)
def rInD' (K : PySem.W.Frag) (neg : Bool) : R2 := fun x y H Q => (∃ d ds, Dp K H x d ∧ Dp K H y (.list ds) ∧ SeqAt.shaped d = true ∧ SeqAt.shaped (.list ds) = true ∧ Q (.bl (if neg then !(ds.any fun z => PyData.eqv z d) else ds.any fun z => PyData.eqv z d)) H) ∨ rIn K neg x y H Q ∨
  ∃ i j, x = .str i ∧ y = .str j ∧ Q (.bl (if neg then !(!(Builtin.Str.occurrences j i 0 j.length 1).isEmpty) else !(Builtin.Str.occurrences j i 0 j.length 1).isEmpty)) H
theorem op_inD' (hu : X.A.units + 65 < cLine) : OpR X (compareOp .In) (rInD' X.K false) := OpR.or (op_inD hu) (OpR.or op_in_seq op_in_str)
theorem op_notInD' (hu : X.A.units + 65 < cLine) : OpR X (compareOp .NotIn) (rInD' X.K true) := OpR.or (op_notInD hu) (OpR.or op_notIn_seq op_notIn_str)
theorem any_pys (e : PyData) : ∀ l : List D, (D.pys l).any (fun z => PyData.eqv z e) = l.any fun z => PyData.eqv z.py e
  | [] => rfl
  | d :: l => by rw [List.any_cons]; show ((d.py :: D.pys l).any _) = _; rw [List.any_cons, any_pys e l]
theorem gIn_ok (neg : Bool) : OpG (rInD' c.K neg) m c (gIn neg) := by
  intro Z H φ x y d e z W σ Q w rx ry hg h
  obtain ⟨b, hb, rfl⟩ := Option.map_eq_some_iff.mp hg
  cases e with
  | lst l =>
    obtain ⟨hs, rfl⟩ := ifs hb
    rw [Bool.and_eq_true] at hs
    refine .inl ⟨_, _, rx.dp w (SeqAt.canLay_of_shaped hs.1), ry.dp w (SeqAt.canLay_of_shaped hs.2), hs.1, hs.2, ?_⟩
    rw [any_pys]
    exact h.nowB w
  | tup l =>
    have hb' : gInT d l = some b := by cases d <;> exact hb
    obtain ⟨v, vs, h1, h2, rfl⟩ := gInT_ok hb'
    obtain ⟨rfl, h3⟩ := flatV_ok h1 rx
    obtain ⟨p, us, rfl, hp, q⟩ := ry.tup
    obtain ⟨rfl, h4⟩ := flatVs_ok h2 q
    exact .inr (.inl ⟨p, us, rfl, .inr (w.sqT hp), h3, h4, h.nowB w⟩)
  | str j =>
    cases d with
    | str i => cases hb; exact .inr (.inr ⟨i, j, rx.str, ry.str, h.nowB w⟩)
    | _ => cases hb
  | _ => cases d <;> cases hb
theorem x_in (hK : X.K = c.K) (hu : X.A.units + 65 < cLine) (ha : EX X c own .p W a A) (hb : EX X c own .p W b B) (hm : behindInMarks .In b = false := by rfl) : EX X c own .o W (.Compare a [.In] [b] pos) (eBin (gIn false) A B) := x_cmp (op_inD' hu) (by rw [hK]; exact gIn_ok false) ha hb hm
theorem x_notin (hK : X.K = c.K) (hu : X.A.units + 65 < cLine) (ha : EX X c own .p W a A) (hb : EX X c own .p W b B) (hm : behindInMarks .NotIn b = false := by rfl) : EX X c own .o W (.Compare a [.NotIn] [b] pos) (eBin (gIn true) A B) := x_cmp (op_notInD' hu) (by rw [hK]; exact gIn_ok true) ha hb hm
theorem b_in (hK : X.K = c.K) (hu : X.A.units + 65 < cLine) (ha : EX X c own .p W a A) (hb : EX X c own .p W b B) (hm : behindInMarks .In b = false := by rfl) : BX X c own W (.Compare a [.In] [b] pos) (bCmp (gIn false) A B) := b_cmp (op_inD' hu) (by rw [hK]; exact gIn_ok false) ha hb hm
theorem b_notin (hK : X.K = c.K) (hu : X.A.units + 65 < cLine) (ha : EX X c own .p W a A) (hb : EX X c own .p W b B) (hm : behindInMarks .NotIn b = false := by rfl) : BX X c own W (.Compare a [.NotIn] [b] pos) (bCmp (gIn true) A B) := b_cmp (op_notInD' hu) (by rw [hK]; exact gIn_ok true) ha hb hm
end
end Pf

set_option Elab.async false
set_option linter.all false
set_option maxRecDepth 100000
set_option maxHeartbeats 4000000
namespace Pf
open PySem PySem.Spec PyProof.Rows L2

/-! ## places of lists -/
theorem atI_get {α : Type} {xs : List α} {i : Int} {x : α} (h : atI xs i = some x) : ∃ j, ixN xs.length i = some j ∧ xs[j]? = some x := by
  unfold atI at h
  cases e : ixN xs.length i with
  | none => rw [e] at h; cases h
  | some j => rw [e] at h; exact ⟨j, rfl, h⟩
theorem atI_reps {K : PySem.W.Frag} {f : Addr} {Z : Hp} {vs : List V} {ds : List D} {i : Int} {x : D} (r : Reps K f Z vs ds) (h : atI ds i = some x) : ∃ y, atI vs i = some y ∧ Rep K f Z y x := by
  obtain ⟨j, h1, h2⟩ := atI_get h
  obtain ⟨y, h3, h4⟩ := r.get h2
  refine ⟨y, ?_, h4⟩
  unfold atI
  rw [r.length, h1]
  exact h3
def gIx : D → D → Option D
  | .lst l, .int i => atI l i
  | .tup l, .int i => atI l i
  | .str z, .int i => if z.length ≤ sizeLine then (atI z.cps.toList i).map (fun k => .str ⟨#[k]⟩) else none
  | _, _ => none
section
variable {X : Cx} {c : Ct} {own : List Ms} {m : Md} {W : WX} {a b : Expr} {A B : SX} {pos : Pos}
theorem gIx_ok : OpG (rIx c.K) .s c gIx := by
  intro Z H φ x y d e z W σ Q w rx ry hg h
  cases d with
  | lst l =>
    cases e with
    | int i =>
      obtain ⟨p, vs, rfl, hp, q⟩ := rx.lst w
      obtain ⟨u, hu, r⟩ := atI_reps q hg
      exact .inl ⟨p, vs, i, u, rfl, ry.int, SqL.of hp, hu, h.now w r⟩
    | _ => cases hg
  | tup l =>
    cases e with
    | int i =>
      obtain ⟨p, vs, rfl, hp, q⟩ := rx.tup
      obtain ⟨u, hu, r⟩ := atI_reps q hg
      exact .inr (.inl ⟨p, vs, i, u, rfl, ry.int, w.sqT hp, hu, h.now w r⟩)
    | _ => cases hg
  | str s =>
    cases e with
    | int i =>
      have hg' : (if s.length ≤ sizeLine then (atI s.cps.toList i).map (fun k => D.str ⟨#[k]⟩) else none) = some z := hg
      by_cases hs : s.length ≤ sizeLine
      · rw [if_pos hs] at hg'
        obtain ⟨k, hk, rfl⟩ := Option.map_eq_some_iff.mp hg'
        exact .inr (.inr ⟨s, i, k, rx.str, ry.int, hs, hk, h.nowS w⟩)
      · rw [if_neg hs] at hg'; cases hg'
    | _ => cases hg
  | _ => cases e <;> cases hg
theorem x_ix (hK : X.K = c.K) (ha : EX X c own .p W a A) (hb : EX X c own .p W b B) (hs : PlainIx b := by exact fun _ _ => rfl) : EX X c own .s W (.Subscript a b pos) (eBin gIx A B) :=
  PE.weak (pe_ix (ix_seq (X := X)) ha hb hs) fun _ _ _ h => by rw [hK]; exact bin_core gIx_ok h

/-! ## slices -/
abbrev SO := En → Fd → O (Option Int)
def PostO (c : Ct) (W : WX) (o : O (Option Int)) (σ : L2.St) (Z H : Hp) (Q : Option Int → Hp → Prop) : Prop :=
  match o with
  | .ok d φ => ∀ Z' H', Ext c.f Z H Z' H' → Wf c.K c.f Z' H' φ → Q d H'
  | .ex x l φ => ∀ cls dx Z' H', Ext c.f Z H Z' H' → Wf c.K c.f Z' H' φ → XRep c Z' H' x l cls dx → W cls dx σ H'
  | .bad => False
def tO (c : Ct) (own : List Ms) (W : WX) (A : SO) : TO := fun σ H Q => ∃ Z ρ φ, Rl c own Z ρ φ σ H ∧ PostO c W (A ρ φ) σ Z H Q
theorem PostO.shift {Z H Z1 H1 : Hp} {σ : L2.St} {o : O (Option Int)} {Q : Option Int → Hp → Prop} (e : Ext c.f Z H Z1 H1) (h : PostO c W o σ Z H Q) : PostO c W o σ Z1 H1 Q := by
  cases o with
  | ok d φ => exact fun Z' H' e' w => h Z' H' (e.trans e') w
  | ex x l φ => exact fun cls dx Z' H' e' w r => h cls dx Z' H' (e.trans e') w r
  | bad => exact h
theorem Post.bindO {m1 : Md} {Z H : Hp} {σ : L2.St} {x : O D} {k : D → Fd → O (Option Int)} {Q : Option Int → Hp → Prop} {R : VK} (h : PostO c W (x.bind k) σ Z H Q)
    (hr : ∀ d φ1 v Z1 H1, Ext c.f Z H Z1 H1 → Wf c.K c.f Z1 H1 φ1 → Res m1 c.K c.f H Z1 H1 v d → PostO c W (k d φ1) σ Z1 H1 Q → R v H1) : Post c m1 W x σ Z H R :=
  Post.bind (E := fun o Z H => PostO c W o σ Z H Q) (fun _ _ _ e h => h.shift e) (fun _ _ _ h => h) (fun h => h) h hr
theorem PostO.bindE {Z H : Hp} {σ : L2.St} {x : O (Option Int)} {k : Option Int → Fd → O D} {Q : VK} {R : Option Int → Hp → Prop} (h : Post c m W (x.bind k) σ Z H Q)
    (hr : ∀ d φ1 Z1 H1, Ext c.f Z H Z1 H1 → Wf c.K c.f Z1 H1 φ1 → Post c m W (k d φ1) σ Z1 H1 Q → R d H1) : PostO c W x σ Z H R := by
  cases x with
  | ok d φ => exact fun Z' H' e w => hr d φ Z' H' e w (Post.shift e h)
  | ex y l φ => exact h
  | bad => exact h
abbrev OX (X : Cx) (c : Ct) (own : List Ms) (W : WX) (e : Option Expr) (A : SO) : Prop := PO X e (tO c own W A)
theorem PO.weak {e : Option Expr} {t t' : TO} (h : PO X e t) (k : ∀ σ H Q, t' σ H Q → t σ H Q) : PO X e t' := ⟨fun pins s σ H Q I q => h.run pins s σ H Q I (k σ H Q q)⟩
def oNone : SO := fun _ φ => .ok none φ
def oSome (A : SX) : SO := fun ρ φ => (A ρ φ).bind fun d φ1 => match d with | .int i => .ok (some i) φ1 | _ => .bad
theorem o_none : OX X c own W none oNone := PO.weak po_none fun σ H Q ⟨Z, ρ, φ, R, h⟩ => h Z H .refl R.wf
theorem o_some (ha : EX X c own .p W a A) : OX X c own W (some a) (oSome A) := by
  refine PO.weak (po_some ha) ?_
  rintro σ H Q ⟨Z, ρ, φ, R, h⟩
  refine ⟨Z, ρ, φ, R, Post.bindO h fun d φ1 v Z1 H1 e1 w1 r1 h1 => ?_⟩
  cases d with
  | int i => exact ⟨i, r1.int, h1 Z1 H1 .refl w1⟩
  | _ => exact h1.elim
def cutD (xs : List D) (lo hi : Option Int) : List D := (xs.drop (HT.sIx xs.length 0 lo)).take (HT.sIx xs.length xs.length hi - HT.sIx xs.length 0 lo)
theorem cut_reps {K : PySem.W.Frag} {f : Addr} {Z : Hp} {vs : List V} {ds : List D} (r : Reps K f Z vs ds) (lo hi : Option Int) : Reps K f Z (cutV vs lo hi) (cutD ds lo hi) := by
  unfold cutV cutD
  rw [r.length]
  exact (r.drop _).take _
def gSl (d : D) (lo hi : Option Int) : Option D := match d with
  | .lst l => some (.lst (cutD l lo hi))
  | .str z => if z.length ≤ sizeLine then some (.str (cutS z lo hi)) else none
  | .tup l => if HT.sIx l.length 0 lo = 0 ∧ HT.sIx l.length l.length hi = l.length then none else some (.tup (cutD l lo hi))
  | _ => none
def eSl (A : SX) (L U : SO) : SX := fun ρ φ => (A ρ φ).bind fun d φ1 => (L ρ φ1).bind fun lo φ2 => (U ρ φ2).bind fun hi φ3 => ofO (gSl d lo hi) φ3
theorem x_sl (hK : X.K = c.K) {lo hi : Option Expr} {L U : SO} {p2 : Pos} (ha : EX X c own .p W a A) (hl : OX X c own W lo L) (hu : OX X c own W hi U) : EX X c own .o W (.Subscript a (.Slice lo hi none p2) pos) (eSl A L U) := by
  refine PE.weak (pe_slice (SlR.or sl_list (SlR.or sl_str sl_tup)) ha hl hu) ?_
  rintro σ H Q ⟨Z, ρ, φ, R, h⟩
  refine ⟨Z, ρ, φ, R, Post.bindE h fun d φ1 x Z1 H1 e1 w1 r1 h1 => ?_⟩
  refine ⟨Z1, ρ, φ1, R.more e1 w1, PostO.bindE h1 fun lo φ2 Z2 H2 e2 w2 h2 => ?_⟩
  refine ⟨Z2, ρ, φ2, (R.more e1 w1).more e2 w2, PostO.bindE h2 fun hi φ3 Z3 H3 e3 w3 h3 => ?_⟩
  obtain ⟨z, hz, h4⟩ := ofO_ok (E := fun o => Post c .o W o σ Z3 H3 Q) h3 fun z => z
  have r3 : Res .p c.K c.f H3 Z3 H3 x d := (r1.pmono e2).pmono e3
  cases d with
  | lst l =>
    cases hz
    obtain ⟨p, vs, rfl, hp, q⟩ := r3.lst w3
    exact .inl ⟨p, vs, rfl, SqL.of hp, h4.newO w3 (.lst (cut_reps q _ _))⟩
  | str s =>
    obtain ⟨hs, rfl⟩ := ifs hz
    exact .inr (.inl ⟨s, r3.str, hs, h4.nowS w3⟩)
  | tup l =>
    have hz' : (if HT.sIx l.length 0 lo = 0 ∧ HT.sIx l.length l.length hi = l.length then none else some (D.tup (cutD l lo hi))) = some z := hz
    by_cases hw : HT.sIx l.length 0 lo = 0 ∧ HT.sIx l.length l.length hi = l.length
    · rw [if_pos hw] at hz'; cases hz'
    · rw [if_neg hw] at hz'; cases hz'
      obtain ⟨p, vs, rfl, hp, q⟩ := r3.tup
      exact .inr (.inr ⟨p, vs, rfl, by rw [hK]; exact w3.sqT hp, by rw [q.length]; exact hw, h4.newT w3 (cut_reps q _ _)⟩)
  | _ => cases hz
def gRev : D → Option D
  | .lst l => some (.lst l.reverse)
  | _ => none
/-- xs[::-1], a list -/
theorem x_rev {k : Nat} {p1 p2 p3 : Pos} (ha : EX X c own .p W a A) : EX X c own .o W (.Subscript a (.Slice none none (some (.UnaryOp .USub (.Constant (.int 1) k p1) p2)) p3) pos) (eUn gRev A) := by
  refine PE.weak (pe_revL ha) ?_
  rintro σ H Q ⟨Z, ρ, φ, R, h⟩
  refine ⟨Z, ρ, φ, R, Post.bindE h fun d φ1 x Z1 H1 e1 w1 r1 h1 => ?_⟩
  obtain ⟨z, hz, h4⟩ := ofO_ok (E := fun o => Post c .o W o σ Z1 H1 Q) h1 fun z => z
  cases d with
  | lst l =>
    cases hz
    obtain ⟨p, vs, rfl, hp, q⟩ := (show Res .p c.K c.f H1 Z1 H1 x _ from r1).lst w1
    exact ⟨p, vs, rfl, SqL.of hp, h4.newO w1 (.lst q.rev)⟩
  | _ => cases hz

/-! ## built-in functions -/
theorem RAll.one {Z H H0 : Hp} {xs : List V} {d : D} (r : RAll .p c.K c.f H0 Z H xs [d]) : ∃ x, xs = [x] ∧ Res .p c.K c.f H0 Z H x d := by
  match xs, r with
  | [x], r => exact ⟨x, rfl, r.1⟩
  | _ :: _ :: _, r => exact r.2.elim
theorem RAll.two {Z H H0 : Hp} {xs : List V} {d e : D} (r : RAll .p c.K c.f H0 Z H xs [d, e]) : ∃ x y, xs = [x, y] ∧ Res .p c.K c.f H0 Z H x d ∧ Res .p c.K c.f H0 Z H y e := by
  match xs, r with
  | [x, y], r => exact ⟨x, y, rfl, r.1, r.2.1⟩
  | [_], r => exact r.2.elim
  | _ :: _ :: _ :: _, r => exact r.2.2.elim
def gLen : List D → Option D
  | [.lst l] => some (.int l.length)
  | [.tup l] => some (.int l.length)
  | [.str z] => if z.length ≤ sizeLine then some (.int z.length) else none
  | _ => none
theorem gLen_ok : CallG (fun xs H Q => ∃ x n, xs = [x] ∧ LenV c.K x H n ∧ Q (.int n) H) m c gLen := by
  intro Z H φ xs ds z W σ Q w r hg h
  match ds, hg, r with
  | [.lst l], hg, r =>
    cases hg
    obtain ⟨x, rfl, rr⟩ := r.one
    have r := rr
    obtain ⟨p, vs, rfl, hp, q⟩ := r.lst w
    exact ⟨_, _, rfl, .inl ⟨vs, SqL.of hp, q.length.symm⟩, h.nowI w⟩
  | [.tup l], hg, r =>
    cases hg
    obtain ⟨x, rfl, rr⟩ := r.one
    have r := rr
    obtain ⟨p, vs, rfl, hp, q⟩ := r.tup
    exact ⟨_, _, rfl, .inr ⟨vs, w.sqT hp, q.length.symm⟩, h.nowI w⟩
  | [.str s], hg, r =>
    obtain ⟨hz, rfl⟩ := ifs hg
    obtain ⟨x, rfl, rr⟩ := r.one
    have r := rr
    exact ⟨_, _, rfl, by rw [r.str]; exact ⟨hz, rfl⟩, h.nowI w⟩
def gList : List D → Option D
  | [.lst l] => some (.lst l)
  | [.tup l] => some (.lst l)
  | _ => none
theorem gList_ok : CallG (fun xs H Q => ∃ p ys, xs = [.ref p] ∧ (SqL c.K H p ys ∨ SqT c.K H p ys) ∧ ∀ l, H l = none → Q (.ref l) (upd H l (.lst ys))) .o c gList := by
  intro Z H φ xs ds z W σ Q w r hg h
  match ds, hg, r with
  | [.lst l], hg, r =>
    cases hg
    obtain ⟨x, rfl, rr⟩ := r.one
    have r := rr
    obtain ⟨p, vs, rfl, hp, q⟩ := r.lst w
    exact ⟨_, _, rfl, .inl (SqL.of hp), h.newO w (.lst q)⟩
  | [.tup l], hg, r =>
    cases hg
    obtain ⟨x, rfl, rr⟩ := r.one
    have r := rr
    obtain ⟨p, vs, rfl, hp, q⟩ := r.tup
    exact ⟨_, _, rfl, .inr (w.sqT hp), h.newO w (.lst q)⟩
def gTuple : List D → Option D
  | [.lst l] => some (.tup l)
  | [.tup l] => some (.tup l)
  | _ => none
theorem gTuple_ok : CallG (fun xs H Q => ∃ p ys, xs = [.ref p] ∧ ((SqL c.K H p ys ∧ ∀ l, H l = none → Q (.ref l) (upd H l (.tup ys))) ∨ (SqT c.K H p ys ∧ Q (.ref p) H))) m c gTuple := by
  intro Z H φ xs ds z W σ Q w r hg h
  match ds, hg, r with
  | [.lst l], hg, r =>
    cases hg
    obtain ⟨x, rfl, rr⟩ := r.one
    have r := rr
    obtain ⟨p, vs, rfl, hp, q⟩ := r.lst w
    exact ⟨_, _, rfl, .inl ⟨SqL.of hp, h.newT w q⟩⟩
  | [.tup l], hg, r =>
    cases hg
    obtain ⟨x, rfl, rr⟩ := r.one
    have r := rr
    have hf := r.flat rfl
    obtain ⟨p, vs, rfl, hp, q⟩ := r.tup
    exact ⟨_, _, rfl, .inr ⟨w.sqT hp, h.now w (Res.of_flat hf rfl)⟩⟩
def gAbs : List D → Option D
  | [.int i] => some (.int (if i < 0 then -i else i))
  | _ => none
theorem gAbs_ok : CallG (fun xs H Q => ∃ i, xs = [.int i] ∧ Q (.int (if i < 0 then -i else i)) H) m c gAbs := by
  intro Z H φ xs ds z W σ Q w r hg h
  match ds, hg, r with
  | [.int i], hg, r =>
    cases hg
    obtain ⟨x, rfl, rr⟩ := r.one
    have r := rr
    exact ⟨i, by rw [r.int], h.nowI w⟩
def b2z (b : Bool) : Int := if b then 1 else 0
def gInt : List D → Option D
  | [.int i] => some (.int i)
  | [.bl b] => some (.int (b2z b))
  | _ => none
theorem gInt_ok : CallG (fun xs H Q => (∃ i, xs = [.int i] ∧ Q (.int i) H) ∨ ∃ k, xs = [.bl k] ∧ Q (.int (if k then 1 else 0)) H) m c gInt := by
  intro Z H φ xs ds z W σ Q w r hg h
  match ds, hg, r with
  | [.int i], hg, r =>
    cases hg
    obtain ⟨x, rfl, rr⟩ := r.one
    have r := rr
    exact .inl ⟨i, by rw [r.int], h.nowI w⟩
  | [.bl b], hg, r =>
    cases hg
    obtain ⟨x, rfl, rr⟩ := r.one
    have r := rr
    exact .inr ⟨b, by rw [r.bl], h.nowI w⟩
def gMax2 : List D → Option D
  | [.int i, .int j] => some (.int (if j > i then j else i))
  | _ => none
def gMin2 : List D → Option D
  | [.int i, .int j] => some (.int (if j < i then j else i))
  | _ => none
theorem gMax2_ok : CallG (fun xs H Q => ∃ i j, xs = [.int i, .int j] ∧ Q (.int (if j > i then j else i)) H) m c gMax2 := by
  intro Z H φ xs ds z W σ Q w r hg h
  match ds, hg, r with
  | [.int i, .int j], hg, r =>
    cases hg
    obtain ⟨x, y, rfl, rr, r'⟩ := r.two
    have r := rr
    exact ⟨i, j, by rw [r.int, r'.int], h.nowI w⟩
theorem gMin2_ok : CallG (fun xs H Q => ∃ i j, xs = [.int i, .int j] ∧ Q (.int (if j < i then j else i)) H) m c gMin2 := by
  intro Z H φ xs ds z W σ Q w r hg h
  match ds, hg, r with
  | [.int i, .int j], hg, r =>
    cases hg
    obtain ⟨x, y, rfl, rr, r'⟩ := r.two
    have r := rr
    exact ⟨i, j, by rw [r.int, r'.int], h.nowI w⟩
def intsOf : List D → Option (List Int)
  | [] => some []
  | .int i :: r => match intsOf r with | some l => some (i :: l) | none => none
  | _ => none
def blsOf : List D → Option (List Bool)
  | [] => some []
  | .bl i :: r => match blsOf r with | some l => some (i :: l) | none => none
  | _ => none
theorem intsOf_inv : ∀ {ds : List D} {ns : List Int}, intsOf ds = some ns → ds = ns.map D.int
  | [], ns, h => by cases h; rfl
  | .int i :: r, ns, h => by
    cases e : intsOf r with
    | none => rw [intsOf, e] at h; cases h
    | some l => rw [intsOf, e] at h; cases h; rw [intsOf_inv e]; rfl
  | .non :: _, _, h => by cases h
  | .bl _ :: _, _, h => by cases h
  | .str _ :: _, _, h => by cases h
  | .lst _ :: _, _, h => by cases h
  | .tup _ :: _, _, h => by cases h
  | .dk _ :: _, _, h => by cases h
  | .dt _ :: _, _, h => by cases h
  | .feed :: _, _, h => by cases h
  | .exn _ _ :: _, _, h => by cases h
theorem intsOf_map : ∀ ns : List Int, intsOf (ns.map D.int) = some ns
  | [] => rfl
  | n :: r => by rw [List.map_cons, intsOf, intsOf_map r]
theorem blsOf_inv : ∀ {ds : List D} {ns : List Bool}, blsOf ds = some ns → ds = ns.map D.bl
  | [], ns, h => by cases h; rfl
  | .bl i :: r, ns, h => by
    cases e : blsOf r with
    | none => rw [blsOf, e] at h; cases h
    | some l => rw [blsOf, e] at h; cases h; rw [blsOf_inv e]; rfl
  | .non :: _, _, h => by cases h
  | .int _ :: _, _, h => by cases h
  | .str _ :: _, _, h => by cases h
  | .lst _ :: _, _, h => by cases h
  | .tup _ :: _, _, h => by cases h
  | .dk _ :: _, _, h => by cases h
  | .dt _ :: _, _, h => by cases h
  | .feed :: _, _, h => by cases h
  | .exn _ _ :: _, _, h => by cases h
theorem blsOf_map : ∀ ns : List Bool, blsOf (ns.map D.bl) = some ns
  | [] => rfl
  | n :: r => by rw [List.map_cons, blsOf, blsOf_map r]
theorem Reps.bls_inv {K : PySem.W.Frag} {f : Addr} {Z : Hp} : ∀ {v : List V} {ns : List Bool}, Reps K f Z v (ns.map D.bl) → v = ns.map V.bl
  | _, [], h => by cases h; rfl
  | _, n :: r, h => by
    cases h with
    | cons a b =>
      cases a with
      | bl => rw [Reps.bls_inv b]; rfl
      | cel _ q => cases q
def gSum : List D → Option D
  | [.lst l] => (intsOf l).map fun ns => .int ns.sum
  | _ => none
theorem ints_arg {Z H : Hp} {φ : Fd} {x : V} {l : List D} {ns : List Int} (w : Wf c.K c.f Z H φ) (r : Res .p c.K c.f H Z H x (.lst l)) (e : intsOf l = some ns) : ∃ p, x = .ref p ∧ SqL c.K H p (ns.map V.int) := by
  obtain ⟨p, vs, rfl, hp, q⟩ := r.lst w
  rw [intsOf_inv e] at q
  rw [q.ints_inv] at hp
  exact ⟨p, rfl, SqL.of hp⟩
theorem bls_arg {Z H : Hp} {φ : Fd} {x : V} {l : List D} {ns : List Bool} (w : Wf c.K c.f Z H φ) (r : Res .p c.K c.f H Z H x (.lst l)) (e : blsOf l = some ns) : ∃ p, x = .ref p ∧ SqL c.K H p (ns.map V.bl) := by
  obtain ⟨p, vs, rfl, hp, q⟩ := r.lst w
  rw [blsOf_inv e] at q
  rw [q.bls_inv] at hp
  exact ⟨p, rfl, SqL.of hp⟩
theorem gSum_ok : CallG (rSum c.K) m c gSum := by
  intro Z H φ xs ds z W σ Q w r hg h
  match ds, hg, r with
  | [.lst l], hg, r =>
    obtain ⟨ns, e, rfl⟩ := Option.map_eq_some_iff.mp hg
    obtain ⟨x, rfl, rr⟩ := r.one
    have r := rr
    obtain ⟨p, rfl, hp⟩ := ints_arg w r e
    exact ⟨p, ns, rfl, hp, h.nowI w⟩
def gAny : List D → Option D
  | [.lst l] => (blsOf l).map fun ns => .bl (ns.any id)
  | _ => none
def gAll : List D → Option D
  | [.lst l] => (blsOf l).map fun ns => .bl (ns.all id)
  | _ => none
theorem gAny_ok : CallG (rAny c.K) m c gAny := by
  intro Z H φ xs ds z W σ Q w r hg h
  match ds, hg, r with
  | [.lst l], hg, r =>
    obtain ⟨ns, e, rfl⟩ := Option.map_eq_some_iff.mp hg
    obtain ⟨x, rfl, rr⟩ := r.one
    have r := rr
    obtain ⟨p, rfl, hp⟩ := bls_arg w r e
    exact ⟨p, ns, rfl, hp, h.nowB w⟩
theorem gAll_ok : CallG (rAll c.K) m c gAll := by
  intro Z H φ xs ds z W σ Q w r hg h
  match ds, hg, r with
  | [.lst l], hg, r =>
    obtain ⟨ns, e, rfl⟩ := Option.map_eq_some_iff.mp hg
    obtain ⟨x, rfl, rr⟩ := r.one
    have r := rr
    obtain ⟨p, rfl, hp⟩ := bls_arg w r e
    exact ⟨p, ns, rfl, hp, h.nowB w⟩
/-! max, min of a list -/
def maxL : List Int → Option Int
  | [] => none
  | x :: r => some (r.foldl (fun a b => if b > a then b else a) x)
def minL : List Int → Option Int
  | [] => none
  | x :: r => some (r.foldl (fun a b => if b < a then b else a) x)
theorem foldmax : ∀ (r : List Int) (x : Int), (r.foldl (fun a b => if b > a then b else a) x ∈ x :: r) ∧ ∀ y ∈ x :: r, y ≤ r.foldl (fun a b => if b > a then b else a) x
  | [], x => ⟨List.mem_cons_self, fun y h => by rw [List.mem_singleton.mp h]; exact Int.le_refl _⟩
  | b :: r, x => by
    obtain ⟨h1, h2⟩ := foldmax r (if b > x then b else x)
    rw [List.foldl_cons]
    refine ⟨?_, fun y hy => ?_⟩
    · rcases List.mem_cons.mp h1 with e | e
      · rw [e]; split
        · exact List.mem_cons_of_mem _ List.mem_cons_self
        · exact List.mem_cons_self
      · exact List.mem_cons_of_mem _ (List.mem_cons_of_mem _ e)
    · have h3 := h2 _ List.mem_cons_self
      rcases List.mem_cons.mp hy with rfl | hy
      · refine Int.le_trans ?_ h3; split <;> omega
      · rcases List.mem_cons.mp hy with rfl | hy
        · refine Int.le_trans ?_ h3; split <;> omega
        · exact h2 y (List.mem_cons_of_mem _ hy)
theorem foldmin : ∀ (r : List Int) (x : Int), (r.foldl (fun a b => if b < a then b else a) x ∈ x :: r) ∧ ∀ y ∈ x :: r, r.foldl (fun a b => if b < a then b else a) x ≤ y
  | [], x => ⟨List.mem_cons_self, fun y h => by rw [List.mem_singleton.mp h]; exact Int.le_refl _⟩
  | b :: r, x => by
    obtain ⟨h1, h2⟩ := foldmin r (if b < x then b else x)
    rw [List.foldl_cons]
    refine ⟨?_, fun y hy => ?_⟩
    · rcases List.mem_cons.mp h1 with e | e
      · rw [e]; split
        · exact List.mem_cons_of_mem _ List.mem_cons_self
        · exact List.mem_cons_self
      · exact List.mem_cons_of_mem _ (List.mem_cons_of_mem _ e)
    · have h3 := h2 _ List.mem_cons_self
      rcases List.mem_cons.mp hy with rfl | hy
      · refine Int.le_trans h3 ?_; split <;> omega
      · rcases List.mem_cons.mp hy with rfl | hy
        · refine Int.le_trans h3 ?_; split <;> omega
        · exact h2 y (List.mem_cons_of_mem _ hy)
theorem maxL_iff {ns : List Int} {k : Int} (e : maxL ns = some k) {j : Int} (h1 : j ∈ ns) (h2 : ∀ y, y ∈ ns → y ≤ j) : j = k := by
  cases ns with
  | nil => cases e
  | cons x r =>
    cases e
    obtain ⟨q1, q2⟩ := foldmax r x
    exact Int.le_antisymm (q2 j h1) (h2 _ q1)
theorem minL_iff {ns : List Int} {k : Int} (e : minL ns = some k) {j : Int} (h1 : j ∈ ns) (h2 : ∀ y, y ∈ ns → j ≤ y) : j = k := by
  cases ns with
  | nil => cases e
  | cons x r =>
    cases e
    obtain ⟨q1, q2⟩ := foldmin r x
    exact Int.le_antisymm (h2 _ q1) (q2 j h1)
theorem maxL_pos {ns : List Int} {k : Int} (e : maxL ns = some k) : 0 < ns.length := by
  cases ns with
  | nil => cases e
  | cons x r => simp
theorem minL_pos {ns : List Int} {k : Int} (e : minL ns = some k) : 0 < ns.length := by
  cases ns with
  | nil => cases e
  | cons x r => simp
def gMax1 : List D → Option D
  | [.lst l] => (intsOf l).bind fun ns => (maxL ns).map D.int
  | _ => none
def gMin1 : List D → Option D
  | [.lst l] => (intsOf l).bind fun ns => (minL ns).map D.int
  | _ => none
theorem gMax1_ok : CallG (rMax c.K) m c gMax1 := by
  intro Z H φ xs ds z W σ Q w r hg h
  match ds, hg, r with
  | [.lst l], hg, r =>
    obtain ⟨ns, e, hg⟩ := Option.bind_eq_some_iff.mp hg
    obtain ⟨k, ek, rfl⟩ := Option.map_eq_some_iff.mp hg
    obtain ⟨x, rfl, rr⟩ := r.one
    have r := rr
    obtain ⟨p, rfl, hp⟩ := ints_arg w r e
    exact ⟨p, ns, rfl, hp, maxL_pos ek, fun j h1 h2 => by rw [maxL_iff ek h1 h2]; exact h.nowI w⟩
theorem gMin1_ok : CallG (rMin c.K) m c gMin1 := by
  intro Z H φ xs ds z W σ Q w r hg h
  match ds, hg, r with
  | [.lst l], hg, r =>
    obtain ⟨ns, e, hg⟩ := Option.bind_eq_some_iff.mp hg
    obtain ⟨k, ek, rfl⟩ := Option.map_eq_some_iff.mp hg
    obtain ⟨x, rfl, rr⟩ := r.one
    have r := rr
    obtain ⟨p, rfl, hp⟩ := ints_arg w r e
    exact ⟨p, ns, rfl, hp, minL_pos ek, fun j h1 h2 => by rw [minL_iff ek h1 h2]; exact h.nowI w⟩
/-! isinstance with a built-in class -/
def D.tn : D → Option String
  | .non => some "NoneType"
  | .bl _ => some "bool"
  | .int _ => some "int"
  | .str _ => some "str"
  | .lst _ => some "list"
  | .tup _ => some "tuple"
  | .dk _ => some "dict"
  | .dt _ => some "dict"
  | _ => none
def tyB (t T : String) : Bool := (t == T) || (t == "bool" && T == "int")
def gIsi (T : String) (d : D) : Option D := d.tn.map fun t => .bl (tyB t T)
/-- what isinstance says of a class's name -/
def IsiOk (T : String) : Prop := ∀ t ∈ ["NoneType", "bool", "int", "str", "list", "tuple", "dict"], kitB t T = some (tyB t T)
theorem tyX_ok {Z H : Hp} {φ : Fd} {x : V} {d : D} {t : String} (w : Wf c.K c.f Z H φ) (r : Res .p c.K c.f H Z H x d) (e : d.tn = some t) : TyX c.K H x (.type t) ∧ t ∈ ["NoneType", "bool", "int", "str", "list", "tuple", "dict"] := by
  cases d with
  | non => cases e; rw [r.non]; exact ⟨.base .non, by decide⟩
  | bl b => cases e; rw [r.bl]; exact ⟨.base (.bl _), by decide⟩
  | int b => cases e; rw [r.int]; exact ⟨.base (.int _), by decide⟩
  | str b => cases e; rw [r.str]; exact ⟨.base (.str _), by decide⟩
  | lst l => cases e; obtain ⟨p, vs, rfl, hp, q⟩ := r.lst w; exact ⟨.base (.lst hp), by decide⟩
  | tup l =>
    cases e
    obtain ⟨p, vs, rfl, hp, q⟩ := r.tup
    refine ⟨?_, by decide⟩
    rcases w.sqT hp with (h | ⟨o, h⟩) | ⟨o, its, n, h1, h2, _⟩
    · exact .base (.tup h)
    · exact .fTuple h
    · exact .kTuple h1 h2
  | dk l => cases e; obtain ⟨p, vs, rfl, hp, q⟩ := r.dk w; exact ⟨.base (.dK hp), by decide⟩
  | dt l => cases e; obtain ⟨p, vs, rfl, hp, q⟩ := r.dt w; exact ⟨.base (.dT hp), by decide⟩
  | feed => cases e
  | exn _ _ => cases e
theorem x_isi {T : String} {x2 : Str} {p p2 : Pos} (hT : IsiOk T) (hK : X.K = c.K) (ha : EX X c own .p W a A) (hm : X.mg "isinstance" = none) (hm2 : X.mg x2 = none) (hv2 : bootBuiltins x2 = some (.type T)) (hg2 : Gl X x2 := by rfl) (hn2 : x2 ≠ "__name__" := by decide) (hd2 : (x2 == ("__debug__" : Str)) = false := by decide)
    (hg : Gl X "isinstance" := by rfl)
    (he : starEach (a :: [.Name x2 p2]) X.env = (false, eval a X.env) :: starEach [.Name x2 p2] X.env := by rfl) (hpl : (backTo pos (starEach [.Name x2 p2] X.env)).any (·.1) = false := by rfl) (he2 : starEach [Expr.Name x2 p2] X.env = (false, eval (.Name x2 p2) X.env) :: starEach [] X.env := by rfl) :
    EX X c own m W (.Call (.Name "isinstance" p) [a, .Name x2 p2] [] pos) (eUn (gIsi T) A) := by
  refine PE.weak (pe_callB call_isi hg hm (by decide +kernel) (pa_cons ha (pa_cons (pe_bltn (v := .ty T) hg2 hm2 hv2 rfl hn2 hd2) pa_nil he2) he) (by decide) (by decide) he hpl) ?_
  rintro σ H Q ⟨Z, ρ, φ, R, h⟩
  refine ⟨Z, ρ, φ, R, Post.bindE h fun d φ1 v Z1 H1 e1 w1 r1 h1 => ?_⟩
  obtain ⟨z, hz, h4⟩ := ofO_ok (E := fun o => Post c m W o σ Z1 H1 Q) h1 fun z => z
  obtain ⟨t, ht, rfl⟩ := Option.map_eq_some_iff.mp hz
  obtain ⟨ty, mem⟩ := tyX_ok w1 r1 ht
  exact ⟨v, .ty T, .type t, .type T, _, rfl, .ty T, by rw [hK]; exact ty, kit_ty (hT t mem), h4.nowB w1⟩
theorem isi_int : IsiOk "int" := by unfold IsiOk; decide +kernel
theorem isi_bool : IsiOk "bool" := by unfold IsiOk; decide +kernel
theorem isi_list : IsiOk "list" := by unfold IsiOk; decide +kernel
theorem isi_tuple : IsiOk "tuple" := by unfold IsiOk; decide +kernel
theorem isi_str : IsiOk "str" := by unfold IsiOk; decide +kernel
end
end Pf

set_option Elab.async false
set_option linter.all false
set_option maxRecDepth 100000
set_option maxHeartbeats 4000000
namespace Pf
open PySem PySem.Spec PyProof.Rows L2

/-! ## calls of the text's own defs -/
/-- how arguments come in: true: to be looked at; false: frozen -/
abbrev Wm (q : Bool) : Md := if q = true then .p else .s
def RArgs (K : PySem.W.Frag) (f : Addr) (Z H : Hp) : List Bool → List V → List D → Prop
  | [], [], [] => True
  | b :: bs, v :: vs, d :: ds => Res (Wm b) K f H Z H v d ∧ RArgs K f Z H bs vs ds
  | _, _, _ => False
theorem RArgs.lens {K : PySem.W.Frag} {f : Addr} {Z H : Hp} : ∀ {bs : List Bool} {vs : List V} {ds : List D}, RArgs K f Z H bs vs ds → vs.length = bs.length ∧ ds.length = bs.length
  | [], [], [], _ => ⟨rfl, rfl⟩
  | b :: bs, v :: vs, d :: ds, h => by
    obtain ⟨h1, h2⟩ := RArgs.lens h.2
    exact ⟨by rw [List.length_cons, List.length_cons, h1], by rw [List.length_cons, List.length_cons, h2]⟩
theorem RArgs.at_ {K : PySem.W.Frag} {f : Addr} {Z H : Hp} : ∀ {bs : List Bool} {vs : List V} {ds : List D} {i : Nat} {d : D}, RArgs K f Z H bs vs ds → ds[i]? = some d → ∃ b v, bs[i]? = some b ∧ vs[i]? = some v ∧ Res (Wm b) K f H Z H v d
  | [], [], [], i, d, _, e => by simp at e
  | b :: bs, v :: vs, d :: ds, 0, x, h, e => by simp at e; subst e; exact ⟨b, v, rfl, rfl, h.1⟩
  | b :: bs, v :: vs, d :: ds, i + 1, x, h, e => by
    obtain ⟨b', v', h1, h2, h3⟩ := RArgs.at_ (i := i) (d := x) h.2 (by simpa using e)
    exact ⟨b', v', by simpa using h1, by simpa using h2, h3⟩
theorem Res.wm {K : PySem.W.Frag} {f : Addr} {H0 Z H Z' H' H1 : Hp} {b : Bool} {v : V} {d : D} (e : Ext f Z H Z' H') (r : Res (Wm b) K f H0 Z H v d) : Res (Wm b) K f H1 Z' H' v d := by
  cases b with
  | false => exact Rep.mono e.z r
  | true => exact Res.pmono r e
theorem RArgs.mono {K : PySem.W.Frag} {f : Addr} {Z H Z' H' : Hp} (e : Ext f Z H Z' H') : ∀ {bs : List Bool} {vs : List V} {ds : List D}, RArgs K f Z H bs vs ds → RArgs K f Z' H' bs vs ds
  | [], [], [], _ => trivial
  | _ :: _, _ :: _, _ :: _, h => ⟨h.1.wm e, RArgs.mono e h.2⟩
def PostM (c : Ct) (pm : List Bool) (W : WX) (o : O (List D)) (σ : L2.St) (Z H : Hp) (Q : List V → Hp → Prop) : Prop :=
  match o with
  | .ok d φ => ∀ v Z' H', Ext c.f Z H Z' H' → Wf c.K c.f Z' H' φ → RArgs c.K c.f Z' H' pm v d → Q v H'
  | .ex x l φ => ∀ cls dx Z' H', Ext c.f Z H Z' H' → Wf c.K c.f Z' H' φ → XRep c Z' H' x l cls dx → W cls dx σ H'
  | .bad => False
def tM (c : Ct) (own : List Ms) (pm : List Bool) (W : WX) (A : SA) : TA := fun σ H Q => ∃ Z ρ φ, Rl c own Z ρ φ σ H ∧ PostM c pm W (A ρ φ) σ Z H Q
abbrev AXM (X : Cx) (c : Ct) (own : List Ms) (pm : List Bool) (W : WX) (es : List Expr) (A : SA) : Prop := PA X es (tM c own pm W A)
section
variable {X : Cx} {c : Ct} {own : List Ms} {W : WX} {σ : L2.St} {Z H Z1 H1 : Hp} {pm : List Bool}
theorem PostM.shift {o : O (List D)} {Q : List V → Hp → Prop} (e : Ext c.f Z H Z1 H1) (h : PostM c pm W o σ Z H Q) : PostM c pm W o σ Z1 H1 Q := by
  cases o with
  | ok d φ => exact fun v Z' H' e2 => h v Z' H' (e.trans e2)
  | ex x l φ => exact fun cls dx Z' H' e2 => h cls dx Z' H' (e.trans e2)
  | bad => exact h
theorem Post.bindM {m1 : Md} {x : O D} {k : D → Fd → O (List D)} {Q : List V → Hp → Prop} {R : VK} (h : PostM c pm W (x.bind k) σ Z H Q)
    (hr : ∀ d φ1 v Z1 H1, Ext c.f Z H Z1 H1 → Wf c.K c.f Z1 H1 φ1 → Res m1 c.K c.f H Z1 H1 v d → PostM c pm W (k d φ1) σ Z1 H1 Q → R v H1) : Post c m1 W x σ Z H R :=
  Post.bind (E := fun o Z H => PostM c pm W o σ Z H Q) (fun _ _ _ e h => h.shift e) (fun _ _ _ h => h) (fun h => h) h hr
theorem PostM.bindM {pm1 : List Bool} {x : O (List D)} {k : List D → Fd → O (List D)} {Q R : List V → Hp → Prop} (h : PostM c pm W (x.bind k) σ Z H Q)
    (hr : ∀ d φ1 v Z1 H1, Ext c.f Z H Z1 H1 → Wf c.K c.f Z1 H1 φ1 → RArgs c.K c.f Z1 H1 pm1 v d → PostM c pm W (k d φ1) σ Z1 H1 Q → R v H1) : PostM c pm1 W x σ Z H R := by
  cases x with
  | ok d φ => exact fun v Z' H' e w r => hr d φ v Z' H' e w r (PostM.shift e h)
  | ex y l φ => exact h
  | bad => exact h
theorem PostM.bindE {m : Md} {pm1 : List Bool} {x : O (List D)} {k : List D → Fd → O D} {Q : VK} {R : List V → Hp → Prop} (h : Post c m W (x.bind k) σ Z H Q)
    (hr : ∀ d φ1 v Z1 H1, Ext c.f Z H Z1 H1 → Wf c.K c.f Z1 H1 φ1 → RArgs c.K c.f Z1 H1 pm1 v d → Post c m W (k d φ1) σ Z1 H1 Q → R v H1) : PostM c pm1 W x σ Z H R := by
  cases x with
  | ok d φ => exact fun v Z' H' e w r => hr d φ v Z' H' e w r (Post.shift e h)
  | ex y l φ => exact h
  | bad => exact h
theorem m_nil : AXM X c own [] W [] aNil := PA.weak pa_nil fun σ H Q ⟨Z, ρ, φ, R, h⟩ => h [] Z H .refl R.wf trivial
theorem m_cons {b : Bool} {e : Expr} {es : List Expr} {A : SX} {B : SA} (ha : EX X c own (Wm b) W e A) (hb : AXM X c own pm W es B) (hs : starEach (e :: es) X.env = (false, eval e X.env) :: starEach es X.env := by rfl) : AXM X c own (b :: pm) W (e :: es) (aCons A B) := by
  refine PA.weak (pa_cons ha hb hs) ?_
  rintro σ H Q ⟨Z, ρ, φ, R, h⟩
  refine ⟨Z, ρ, φ, R, Post.bindM h fun d φ1 x Z1 H1 e1 w1 r1 h1 => ?_⟩
  refine ⟨Z1, ρ, φ1, R.more e1 w1, PostM.bindM h1 fun ds φ2 xs Z2 H2 e2 w2 r2 h2 => ?_⟩
  exact h2 (x :: xs) Z2 H2 .refl w2 ⟨r1.wm e2, r2⟩
theorem m_s {e : Expr} {es : List Expr} {A : SX} {B : SA} (ha : EX X c own .s W e A) (hb : AXM X c own pm W es B) (hs : starEach (e :: es) X.env = (false, eval e X.env) :: starEach es X.env := by rfl) : AXM X c own (false :: pm) W (e :: es) (aCons A B) := m_cons (b := false) ha hb hs
theorem m_p {e : Expr} {es : List Expr} {A : SX} {B : SA} (ha : EX X c own .p W e A) (hb : AXM X c own pm W es B) (hs : starEach (e :: es) X.env = (false, eval e X.env) :: starEach es X.env := by rfl) : AXM X c own (true :: pm) W (e :: es) (aCons A B) := m_cons (b := true) ha hb hs
end
/-- a def's promise by what it does; pm: how its arguments come in -/
def spF (cls : Str → Option (Addr × List Str)) (K : PySem.W.Frag) (pm : List Bool) (m : Md) (F : Fn) : Sp := fun vs H Q E => ∃ (f : Addr) (Z : Hp) (ds : List D) (φ : Fd), Wf K f Z H φ ∧ RArgs K f Z H pm vs ds ∧
  match F ds φ with
  | .ok d φ' => ∀ v Z' H', Ext f Z H Z' H' → Wf K f Z' H' φ' → Res m K f H Z' H' v d → Q v H'
  | .ex x l φ' => ∀ cl dx Z' H', Ext f Z H Z' H' → Wf K f Z' H' φ' → XRep ⟨K, f, Z, H, cls, [], []⟩ Z' H' x l cl dx → E cl dx H'
  | .bad => False
/-- the def x of the text, callable at level k -/
structure Cal (P : Program) (w : World) (K : PySem.W.Frag) (mg : Str → Option Value) (base : Heap) (cls : Str → Option (Addr × List Str)) (x : Str) (k : Nat) (pm : List Bool) (m : Md) (F : Fn) : Prop where
  ex : ∃ (f : Addr) (fd : FuncData) (ps : List Str), mg x = some (.ref f) ∧ PySem.W.keepIn K (.ref f) = true ∧ Binds K fd ps [] ∧ FnOk P w K mg base (L2.CX P w) k f fd ps (spF cls K pm m F)
theorem Cal.mono {P : Program} {w : World} {K : PySem.W.Frag} {mg : Str → Option Value} {base : Heap} {cls : Str → Option (Addr × List Str)} {x : Str} {k j : Nat} {pm : List Bool} {m : Md} {F : Fn} (C : Cal P w K mg base cls x k pm m F) (h : k ≤ j) : Cal P w K mg base cls x j pm m F := by
  obtain ⟨f, fd, ps, h1, h2, h3, h4⟩ := C.ex
  exact ⟨f, fd, ps, h1, h2, h3, h4.mono h⟩
def eCall (F : Fn) (A : SA) : SX := fun ρ φ => (A ρ φ).bind F
def eCall0 (F : Fn) : SX := fun _ φ => match F [] φ with
  | .ok d φ' => .ok d φ'
  | _ => .bad
section
variable {X : Cx} {c : Ct} {own : List Ms} {m : Md} {W : WX} {pos p : Pos} {x : Str} {k : Nat} {pm : List Bool} {F : Fn}
theorem x_call {e : Expr} {es : List Expr} {A : SA} (hK : X.K = c.K) (C : Cal X.prog X.w X.K X.mg X.base c.cls x k pm m F) (hr : Room k X.A) (tk : Takes X W) (ha : AXM X c own pm W (e :: es) A)
    (hg : Gl X x := by rfl) (hdb : (x == ("__debug__" : Str)) = false := by decide)
    (he : starEach (e :: es) X.env = (false, eval e X.env) :: starEach es X.env := by rfl) (hpl : (backTo pos (starEach es X.env)).any (·.1) = false := by rfl) : EX X c own m W (.Call (.Name x p) (e :: es) [] pos) (eCall F A) := by
  obtain ⟨f, fd, ps, h1, h2, h3, h4⟩ := C.ex
  refine PE.weak (pe_callS h4 hr hg h1 h2 h3 (fun σ => passAt tk σ) ha hdb he hpl) ?_
  rintro σ H Q ⟨Z, ρ, φ, R, h⟩
  refine ⟨Z, ρ, φ, R, PostM.bindE h fun ds φ1 xs Z1 H1 e1 w1 r1 h2 => ?_⟩
  refine ⟨c.f, Z1, ds, φ1, by rw [hK]; exact w1, by rw [hK]; exact r1, ?_⟩
  rw [hK]
  cases hF : F ds φ1 with
  | ok d φ2 => rw [hF] at h2; exact h2
  | ex y l φ2 => rw [hF] at h2; exact h2
  | bad => rw [hF] at h2; exact h2.elim
theorem x_call0 (hK : X.K = c.K) (C : Cal X.prog X.w X.K X.mg X.base c.cls x k [] m F) (hr : Room k X.A) (hg : Gl X x := by rfl) (hdb : (x == ("__debug__" : Str)) = false := by decide) : EX X c own m W (.Call (.Name x p) [] [] pos) (eCall0 F) := by
  obtain ⟨f, fd, ps, h1, h2, h3, h4⟩ := C.ex
  refine PE.weak (pe_call0 h4 hr hg h1 h2 h3 .nil passL hdb) ?_
  rintro σ H Q ⟨Z, ρ, φ, R, h⟩
  show spF c.cls X.K [] m F [] H Q E0
  refine ⟨c.f, Z, [], φ, by rw [hK]; exact R.wf, trivial, ?_⟩
  rw [hK]
  unfold eCall0 at h
  cases hF : F [] φ with
  | ok d φ2 => rw [hF] at h; exact h
  | ex y l φ2 => rw [hF] at h; exact h.elim
  | bad => rw [hF] at h; exact h.elim
end

/-! ## statements -/
inductive R where
  | nx (ρ : En) (φ : Fd) | rt (d : D) (φ : Fd) | bk (ρ : En) (φ : Fd) | ct (ρ : En) (φ : Fd) | ex (x : Str) (l : List D) (ρ : En) (φ : Fd) | bad
abbrev SS := En → Fd → R
/-- how a statement's own-list fares: lp: at break and continue; on: behind it. ox: which own-lists an exception may find -/
structure Ow where
  m : Md
  W : WX
  ox : List Ms → Prop
  lp : List Ms
def Sub (Z Z' : Hp) : Prop := ∀ a o, Z a = some o → Z' a = some o
theorem Sub.refl {Z : Hp} : Sub Z Z := fun _ _ h => h
theorem Sub.trans {Z Z1 Z2 : Hp} (a : Sub Z Z1) (b : Sub Z1 Z2) : Sub Z Z2 := fun x o h => b x o (a x o h)
def PostS (c : Ct) (w : Ow) (on : List Ms) (r : R) (Dn : Ends) (Z0 : Hp) : Prop :=
  match r with
  | .nx ρ φ => ∀ σ Z H, Sub Z0 Z → Rl c on Z ρ φ σ H → Dn.nx σ H
  | .rt d φ => ∀ v Z H, Ext c.f c.Z c.H Z H → Wf c.K c.f Z H φ → Res w.m c.K c.f c.H Z H v d → Dn.rt v H
  | .bk ρ φ => ∀ σ Z H, Sub Z0 Z → Rl c w.lp Z ρ φ σ H → Dn.bk σ H
  | .ct ρ φ => ∀ σ Z H, Sub Z0 Z → Rl c w.lp Z ρ φ σ H → Dn.ct σ H
  | .ex x l ρ φ => ∀ cls dx σ Z H ow, w.ox ow → Rl c ow Z ρ φ σ H → XRep c Z H x l cls dx → w.W cls dx σ H
  | .bad => False
def tS (c : Ct) (w : Ow) (own on : List Ms) (B : SS) : TS := fun Dn σ H => ∃ Z ρ φ, Rl c own Z ρ φ σ H ∧ PostS c w on (B ρ φ) Dn Z
theorem PostS.shift {c : Ct} {w : Ow} {on : List Ms} {r : R} {Dn : Ends} {Z0 Z1 : Hp} (h : PostS c w on r Dn Z0) (k : Sub Z0 Z1) : PostS c w on r Dn Z1 := by
  cases r with
  | nx ρ φ => exact fun σ Z H q => h σ Z H (k.trans q)
  | rt d φ => exact h
  | bk ρ φ => exact fun σ Z H q => h σ Z H (k.trans q)
  | ct ρ φ => exact fun σ Z H q => h σ Z H (k.trans q)
  | ex x l ρ φ => exact h
  | bad => exact h
abbrev SJ (X : Cx) (c : Ct) (w : Ow) (own on : List Ms) (st : Stmt) (B : SS) : Prop := PS X st (tS c w own on B)
abbrev SJs (X : Cx) (c : Ct) (w : Ow) (own on : List Ms) (st : List Stmt) (B : SS) : Prop := PSs X st (tS c w own on B)

/-- an outcome of an expression goes on as a statement's -/
def O.toR {α : Type} (o : O α) (ρ : En) (k : α → Fd → R) : R :=
  match o with
  | .ok a φ => k a φ
  | .ex x l φ => .ex x l ρ φ
  | .bad => .bad
section
variable {c : Ct} {w : Ow} {own on : List Ms} {m : Md} {Z H : Hp} {ρ : En} {φ : Fd} {σ : L2.St} {Dn : Ends}
theorem Post.toS {o : O D} {k : D → Fd → R} {Q : VK} (hx : w.ox own) (R0 : Rl c own Z ρ φ σ H) (h : PostS c w on (o.toR ρ k) Dn Z)
    (hk : ∀ d φ' v Z' H', Ext c.f Z H Z' H' → Wf c.K c.f Z' H' φ' → Res m c.K c.f H Z' H' v d → PostS c w on (k d φ') Dn Z' → Q v H') : Post c m w.W o σ Z H Q := by
  cases o with
  | ok d φ' => exact fun v Z' H' e w' r => hk d φ' v Z' H' e w' r (h.shift e.z)
  | ex x l φ' => exact fun cls dx Z' H' e w' r => h cls dx σ Z' H' own hx (R0.more e w') r
  | bad => exact h
theorem PostB.toS {o : O Bool} {k : Bool → Fd → R} {Q : Bool → Hp → Prop} (hx : w.ox own) (R0 : Rl c own Z ρ φ σ H) (h : PostS c w on (o.toR ρ k) Dn Z)
    (hk : ∀ d φ' Z' H', Ext c.f Z H Z' H' → Wf c.K c.f Z' H' φ' → PostS c w on (k d φ') Dn Z' → Q d H') : PostB c w.W o σ Z H Q := by
  cases o with
  | ok d φ' => exact fun Z' H' e w' => hk d φ' Z' H' e w' (h.shift e.z)
  | ex x l φ' => exact fun cls dx Z' H' e w' r => h cls dx σ Z' H' own hx (R0.more e w') r
  | bad => exact h
theorem PostA.toS {o : O (List D)} {k : List D → Fd → R} {Q : List V → Hp → Prop} (hx : w.ox own) (R0 : Rl c own Z ρ φ σ H) (h : PostS c w on (o.toR ρ k) Dn Z)
    (hk : ∀ d φ' v Z' H', Ext c.f Z H Z' H' → Wf c.K c.f Z' H' φ' → RAll m c.K c.f H Z' H' v d → PostS c w on (k d φ') Dn Z' → Q v H') : PostA c m w.W o σ Z H Q := by
  cases o with
  | ok d φ' => exact fun v Z' H' e w' r => hk d φ' v Z' H' e w' r (h.shift e.z)
  | ex x l φ' => exact fun cls dx Z' H' e w' r => h cls dx σ Z' H' own hx (R0.more e w') r
  | bad => exact h
end

/-! ### the slots -/
theorem get_set {α : Type} {l : List α} {i j : Nat} {x y : α} (h : (l.set i x)[j]? = some y) : (j = i ∧ y = x) ∨ (j ≠ i ∧ l[j]? = some y) := by
  by_cases e : j = i
  · subst e
    rw [List.getElem?_set] at h
    simp only [if_true] at h
    split at h
    · cases h; exact .inl ⟨rfl, rfl⟩
    · cases h
  · rw [List.getElem?_set_ne (Ne.symm e)] at h
    exact .inr ⟨e, h⟩
section
variable {c : Ct} {own : List Ms} {Z H Z' H' : Hp} {ρ : En} {φ φ' : Fd} {σ : L2.St} {i : Nat} {d : D} {v : V}
theorem Rl.pnSet {m : Ms} {x : Option D} {y : Option V} (R : Rl c own Z ρ φ σ H) (hm : m ≠ .p ∧ m ≠ .r := by decide) : ∀ (j : Nat) (d : D), (ρ.set i x)[j]? = some (some d) → (own.set i m)[j]? = some .p ∨ (own.set i m)[j]? = some .r → c.r0[j]? = some (some d) ∧ (σ.set i y)[j]? = c.s0[j]? := by
  intro j d h1 h2
  have hj : j ≠ i := fun e => by
    subst e
    rcases h2 with h2 | h2 <;> rcases get_set h2 with ⟨_, q⟩ | ⟨q, _⟩ <;> first | exact q rfl | exact hm.1 q.symm | exact hm.2 q.symm
  rw [List.getElem?_set_ne (Ne.symm hj)] at h1 h2 ⊢
  exact R.pn j d h1 h2
theorem Rl.pkSet {m : Ms} {x : Option D} {y : Option V} (R : Rl c own Z ρ φ σ H) (hm : m ≠ .p ∧ m ≠ .r := by decide) : ∀ (j : Nat) (d : D), (ρ.set i x)[j]? = some (some d) → (own.set i m)[j]? = some .p → ∃ v, (σ.set i y)[j]? = some (some v) ∧ Res .p c.K c.f c.H c.Z c.H v d := by
  intro j d h1 h2
  have hj : j ≠ i := fun e => by
    subst e
    rcases get_set h2 with ⟨_, q⟩ | ⟨q, _⟩
    · exact hm.1 q.symm
    · exact q rfl
  rw [List.getElem?_set_ne (Ne.symm hj)] at h1 h2 ⊢
  exact R.pk j d h1 h2
/-- a name is bound to frozen data -/
theorem Rl.setS (R : Rl c own Z ρ φ σ H) (r : Rep c.K c.f Z v d) : Rl c (own.set i .s) Z (ρ.set i (some d)) φ (σ.set i (some v)) H := by
  refine ⟨R.wf, R.ext, by simpa using R.len, fun j e h1 h2 h3 => ?_, fun j e h1 h2 => ?_, fun j k a e e' hjk h1 h2 h3 h4 h5 h6 h7 h8 => ?_, R.pnSet, R.pkSet⟩
  · rcases get_set h1 with ⟨rfl, q⟩ | ⟨hj, q⟩
    · cases q
      have hl : j < σ.length := by
        rw [R.len]
        have := (List.getElem?_eq_some_iff.mp h1).1
        simpa using this
      exact ⟨v, List.getElem?_set_self hl, r⟩
    · rw [List.getElem?_set_ne (Ne.symm hj)]
      exact R.sh j e q (by rwa [List.getElem?_set_ne (Ne.symm hj)] at h2) (by rwa [List.getElem?_set_ne (Ne.symm hj)] at h3)
  · rcases get_set h2 with ⟨rfl, q⟩ | ⟨hj, q⟩
    · cases q
    · rw [List.getElem?_set_ne (Ne.symm hj)] at h1 ⊢
      exact R.ow j e h1 q
  · rcases get_set h1 with ⟨rfl, q⟩ | ⟨hj, q⟩
    · cases q
    · rcases get_set h2 with ⟨rfl, q'⟩ | ⟨hk, q'⟩
      · cases q'
      · rw [List.getElem?_set_ne (Ne.symm hj)] at h3 h7
        rw [List.getElem?_set_ne (Ne.symm hk)] at h5 h8
        exact R.ne j k a e e' hjk q q' h3 h4 h5 h6 h7 h8
/-- a name is bound to something fresh: H0, the heap at the statement's start -/
theorem Rl.setO {Z0 H0 : Hp} {φ0 : Fd} (R0 : Rl c own Z0 ρ φ0 σ H0) (e : Ext c.f Z0 H0 Z H) (w : Wf c.K c.f Z H φ) (hi : i < own.length) (r : Res .o c.K c.f H0 Z H v d) : Rl c (own.set i .o) Z (ρ.set i (some d)) φ (σ.set i (some v)) H := by
  have R := R0.more e w
  have kH : ∀ a, c.H a ≠ none → H0 a ≠ none := R0.ext.k
  -- an own cell of another name is older than the new one
  have apart : ∀ (k : Nat) (a : Addr) (e' : D), k ≠ i → own[k]? = some .o → ρ[k]? = some (some e') → e'.mt = true → σ[k]? = some (some (.ref a)) → d.mt = true → v = .ref a → False := by
    intro k a e' hk h1 h2 h3 h4 hd hv
    obtain ⟨u, hu, ru⟩ := R0.ow k e' h2 h1
    rw [h4] at hu
    cases hu
    unfold Res at ru r
    rw [if_pos h3] at ru
    rw [if_pos hd] at r
    obtain ⟨b, o, eb, _, _, _, hb, _⟩ := ru
    obtain ⟨b', o', eb', hn, _⟩ := r
    rw [hv] at eb'
    cases eb
    cases eb'
    rw [hb] at hn
    cases hn
  refine ⟨w, R.ext, by simpa using R.len, fun j e' h1 h2 h3 => ?_, fun j e' h1 h2 => ?_, fun j k a e' e'' hjk h1 h2 h3 h4 h5 h6 h7 h8 => ?_, R.pnSet, R.pkSet⟩
  · rcases get_set h1 with ⟨rfl, q⟩ | ⟨hj, q⟩
    · exact absurd (List.getElem?_set_self hi) h2
    · rw [List.getElem?_set_ne (Ne.symm hj)]
      exact R.sh j e' q (by rwa [List.getElem?_set_ne (Ne.symm hj)] at h2) (by rwa [List.getElem?_set_ne (Ne.symm hj)] at h3)
  · rcases get_set h1 with ⟨rfl, q⟩ | ⟨hj, q⟩
    · cases q
      have hl : j < σ.length := by
        rw [R.len]
        have := (List.getElem?_eq_some_iff.mp h1).1
        simpa using this
      exact ⟨v, List.getElem?_set_self hl, r.start kH⟩
    · rw [List.getElem?_set_ne (Ne.symm hj)] at h2 ⊢
      exact R.ow j e' q h2
  · rcases get_set h3 with ⟨rfl, q⟩ | ⟨hj, q⟩
    · cases q
      have hk : k ≠ j := Ne.symm hjk
      rw [List.getElem?_set_ne (Ne.symm hk)] at h2 h5 h8
      rcases get_set h7 with ⟨_, q7⟩ | ⟨hh, _⟩
      · cases q7
        exact apart k a e'' hk h2 h5 h6 h8 h4 rfl
      · exact hh rfl
    · rw [List.getElem?_set_ne (Ne.symm hj)] at h1 h7
      rcases get_set h5 with ⟨rfl, q'⟩ | ⟨hk, q'⟩
      · cases q'
        rcases get_set h8 with ⟨_, q8⟩ | ⟨hh, _⟩
        · cases q8
          exact apart j a e' hj h1 q h4 h7 h6 rfl
        · exact hh rfl
      · rw [List.getElem?_set_ne (Ne.symm hk)] at h2 h8
        exact R.ne j k a e' e'' hjk h1 h2 q h4 q' h6 h7 h8
/-- an own cell is written -/
theorem Rl.write (R : Rl c own Z ρ φ σ H) {a : Addr} {d' : D} {o' : HO} (ho : own[i]? = some .o) (hd : ρ[i]? = some (some d)) (hm : d.mt = true) (ha : σ[i]? = some (some (.ref a))) (rc : RepC c.K c.f Z o' d') :
    Rl c own Z (ρ.set i (some d')) φ σ (upd H a o') := by
  obtain ⟨u, hu, ru⟩ := R.ow i d hd ho
  rw [ha] at hu
  cases hu
  unfold Res at ru
  rw [if_pos hm] at ru
  obtain ⟨b, o, eb, hn, hz, hf, hH, _⟩ := ru
  cases eb
  have up : ∀ b u, b ≠ a → H b = some u → upd H a o' b = some u := fun b u hb q => by rw [upd_ne hb]; exact q
  have hm' : d'.mt = true := by cases rc <;> rfl
  have zne : ∀ b u, Z b = some u → b ≠ a := fun b u q e => by rw [e, hz] at q; cases q
  refine ⟨⟨fun b u q => up b u (zne b u q) (R.wf.sub b u q), R.wf.zf, ?_, R.wf.ok⟩, ⟨R.ext.z, fun b u hb q => ?_, fun b q => ?_, R.ext.n, R.ext.d.trans (.same (upd_ne (Ne.symm hf)))⟩, by simpa using R.len, fun j e h1 h2 h3 => ?_, fun j e h1 h2 => ?_, fun j k b e e' hjk h1 h2 h3 h4 h5 h6 h7 h8 => ?_, fun j e h1 h2 => ?_, fun j e h1 h2 => ?_⟩
  · obtain ⟨s, h1, h2⟩ := R.wf.feed
    exact ⟨s, h1, up _ _ (Ne.symm hf) h2⟩
  · exact up b u (fun e => by rw [e, hn] at q; cases q) (R.ext.h b u hb q)
  · by_cases e : b = a
    · rw [e, upd_same]; simp
    · rw [upd_ne e]; exact R.ext.k b q
  · rcases get_set h1 with ⟨rfl, q⟩ | ⟨hj, q⟩
    · exact absurd ho h2
    · exact R.sh j e q h2 h3
  · rcases get_set h1 with ⟨rfl, q⟩ | ⟨hj, q⟩
    · cases q
      refine ⟨_, ha, ?_⟩
      unfold Res
      rw [if_pos hm']
      exact ⟨a, o', rfl, hn, hz, hf, upd_same, rc⟩
    · obtain ⟨u, hu, ru⟩ := R.ow j e q h2
      refine ⟨u, hu, ?_⟩
      by_cases me : e.mt = true
      · unfold Res at ru ⊢
        rw [if_pos me] at ru ⊢
        obtain ⟨b, o2, rfl, h3, h4, h5, h6, h7⟩ := ru
        exact ⟨b, o2, rfl, h3, h4, h5, up b o2 (fun z => R.ne j i b e d hj h2 ho q me hd hm hu (by rw [z]; exact ha)) h6, h7⟩
      · unfold Res at ru ⊢
        rw [if_neg me] at ru ⊢
        exact ru
  · have fx : ∀ (j : Nat) (e : D), (ρ.set i (some d'))[j]? = some (some e) → e.mt = true → ∃ e', ρ[j]? = some (some e') ∧ e'.mt = true := fun j e q me => by
      rcases get_set q with ⟨rfl, q⟩ | ⟨_, q⟩
      · exact ⟨d, hd, hm⟩
      · exact ⟨e, q, me⟩
    obtain ⟨f1, g1, k1⟩ := fx j e h3 h4
    obtain ⟨f2, g2, k2⟩ := fx k e' h5 h6
    exact R.ne j k b f1 f2 hjk h1 h2 g1 k1 g2 k2 h7 h8
  · rcases get_set h1 with ⟨rfl, q⟩ | ⟨hj, q⟩
    · rcases h2 with h2 | h2 <;> rw [ho] at h2 <;> cases h2
    · exact R.pn j e q h2
  · rcases get_set h1 with ⟨rfl, q⟩ | ⟨hj, q⟩
    · rw [ho] at h2; cases h2
    · exact R.pk j e q h2
/-- a name's cell is frozen -/
theorem Rl.frz (R : Rl c own Z ρ φ σ H) (i : Nat) (hp : own[i]? ≠ some .p) : ∃ Z', Sub Z Z' ∧ Rl c (own.set i .s) Z' ρ φ σ H := by
  -- the others, from a frozen part that grew by this cell at most
  have core : ∀ Z' : Hp, Ext c.f Z H Z' H → Wf c.K c.f Z' H φ → (∀ d, ρ[i]? = some (some d) → own[i]? = some .o → ∃ v, σ[i]? = some (some v) ∧ Rep c.K c.f Z' v d) →
      (∀ (j : Nat) (d : D) (a : Addr), j ≠ i → ρ[j]? = some (some d) → own[j]? = some .o → d.mt = true → σ[j]? = some (some (.ref a)) → Z a = none → Z' a = none) → Rl c (own.set i .s) Z' ρ φ σ H := by
    intro Z' e w hs hk
    have ext : Ext c.f c.Z c.H Z' H := ⟨fun b u q => e.z b u (R.ext.z b u q), R.ext.h, R.ext.k, fun b q1 q2 => e.n b (R.ext.k b q1) (R.ext.n b q1 q2), R.ext.d⟩
    refine ⟨w, ext, R.len, fun j d h1 h2 h3 => ?_, fun j d h1 h2 => ?_, fun j k a d d' hjk h1 h2 => ?_, fun j d h1 h2 => ?_, fun j d h1 h2 => ?_⟩
    · by_cases hj : j = i
      · subst hj
        by_cases ho : own[j]? = some .o
        · exact hs d h1 ho
        · obtain ⟨v, h3, h4⟩ := R.sh j d h1 ho hp
          exact ⟨v, h3, h4.mono e.z⟩
      · rw [List.getElem?_set_ne (Ne.symm hj)] at h2 h3
        obtain ⟨v, h3, h4⟩ := R.sh j d h1 h2 h3
        exact ⟨v, h3, h4.mono e.z⟩
    · rcases get_set h2 with ⟨rfl, q⟩ | ⟨hj, q⟩
      · cases q
      · obtain ⟨v, h3, h4⟩ := R.ow j d h1 q
        refine ⟨v, h3, ?_⟩
        by_cases me : d.mt = true
        · unfold Res at h4 ⊢
          rw [if_pos me] at h4 ⊢
          obtain ⟨a, o, rfl, g1, g2, g3, g4, g5⟩ := h4
          exact ⟨a, o, rfl, g1, hk j d a hj h1 q me h3 g2, g3, g4, g5.mono e.z⟩
        · unfold Res at h4 ⊢
          rw [if_neg me] at h4 ⊢
          exact h4.mono e.z
    · have unset : ∀ j, (own.set i Ms.s)[j]? = some Ms.o → own[j]? = some Ms.o := fun j q => by
        rcases get_set q with ⟨rfl, q'⟩ | ⟨_, q'⟩
        · cases q'
        · exact q'
      exact R.ne j k a d d' hjk (unset j h1) (unset k h2)
    · refine R.pn j d h1 ?_
      rcases h2 with h2 | h2 <;> rcases get_set h2 with ⟨_, q⟩ | ⟨_, q⟩ <;> first | exact .inl q | exact .inr q | cases q
    · refine R.pk j d h1 ?_
      rcases get_set h2 with ⟨_, q⟩ | ⟨_, q⟩
      · cases q
      · exact q
  by_cases hh : ∃ d, ρ[i]? = some (some d) ∧ own[i]? = some .o ∧ d.mt = true
  · obtain ⟨d, h1, h2, h3⟩ := hh
    obtain ⟨v, hv, r⟩ := R.ow i d h1 h2
    unfold Res at r
    rw [if_pos h3] at r
    obtain ⟨a, o, rfl, hn, hz, hf, ha, rc⟩ := r
    have up : ∀ b u, Z b = some u → upd Z a o b = some u := fun b u q => by rw [upd_ne (ne_of_none q hz)]; exact q
    refine ⟨upd Z a o, up, ?_⟩
    -- as core, but the entry's own new cells: a is no object of the entry
    have w' : Wf c.K c.f (upd Z a o) H φ := by
      refine ⟨fun b u q => ?_, ?_, ?_, R.wf.ok⟩
      · by_cases hb : b = a
        · subst hb; rw [upd_same] at q; cases q; exact ha
        · rw [upd_ne hb] at q; exact R.wf.sub b u q
      · rw [upd_ne (Ne.symm hf)]; exact R.wf.zf
      · obtain ⟨s, g1, g2⟩ := R.wf.feed
        exact ⟨s, up _ _ g1, g2⟩
    have ext : Ext c.f c.Z c.H (upd Z a o) H := ⟨fun b u q => up b u (R.ext.z b u q), R.ext.h, R.ext.k, fun b q1 q2 => by
      have hb : b ≠ a := fun e => q1 (by rw [e]; exact hn)
      rw [upd_ne hb]
      exact R.ext.n b q1 q2, R.ext.d⟩
    refine ⟨w', ext, R.len, fun j e h4 h5 h6 => ?_, fun j e h4 h5 => ?_, fun j k b e e' hjk h4 h5 => ?_, fun j d h1 h2 => ?_, fun j d h1 h2 => ?_⟩
    · by_cases hj : j = i
      · subst hj
        rw [h1] at h4; cases h4
        exact ⟨_, hv, .cel upd_same (rc.mono up)⟩
      · rw [List.getElem?_set_ne (Ne.symm hj)] at h5 h6
        obtain ⟨v, g1, g2⟩ := R.sh j e h4 h5 h6
        exact ⟨v, g1, g2.mono up⟩
    · rcases get_set h5 with ⟨rfl, q⟩ | ⟨hj, q⟩
      · cases q
      · obtain ⟨v, g1, g2⟩ := R.ow j e h4 q
        refine ⟨v, g1, ?_⟩
        by_cases me : e.mt = true
        · unfold Res at g2 ⊢
          rw [if_pos me] at g2 ⊢
          obtain ⟨b, o2, rfl, k1, k2, k3, k4, k5⟩ := g2
          refine ⟨b, o2, rfl, k1, ?_, k3, k4, k5.mono up⟩
          rw [upd_ne (fun z => R.ne j i b e d hj q h2 h4 me h1 h3 g1 (by rw [z]; exact hv))]
          exact k2
        · unfold Res at g2 ⊢
          rw [if_neg me] at g2 ⊢
          exact g2.mono up
    · have unset : ∀ j, (own.set i Ms.s)[j]? = some Ms.o → own[j]? = some Ms.o := fun j q => by
        rcases get_set q with ⟨rfl, q'⟩ | ⟨_, q'⟩
        · cases q'
        · exact q'
      exact R.ne j k b e e' hjk (unset j h4) (unset k h5)
    · refine R.pn j d h1 ?_
      rcases h2 with h2 | h2 <;> rcases get_set h2 with ⟨_, q⟩ | ⟨_, q⟩ <;> first | exact .inl q | exact .inr q | cases q
    · refine R.pk j d h1 ?_
      rcases get_set h2 with ⟨_, q⟩ | ⟨_, q⟩
      · cases q
      · exact q
  · refine ⟨Z, Sub.refl, core Z ⟨fun _ _ q => q, fun _ _ _ q => q, fun _ q => q, fun _ _ q => q, .refl⟩ R.wf (fun d h1 h2 => ?_) fun _ _ _ _ _ _ _ _ q => q⟩
    obtain ⟨v, hv, r⟩ := R.ow i d h1 h2
    have hm : d.mt = false := by
      cases e : d.mt with
      | false => rfl
      | true => exact absurd ⟨d, h1, h2, e⟩ hh
    exact ⟨v, hv, r.flat hm⟩
theorem Rl.frzs (R : Rl c own Z ρ φ σ H) : ∀ is : List Nat, (∀ i ∈ is, own[i]? ≠ some .p) → ∃ Z', Sub Z Z' ∧ Rl c (is.foldr (fun i o => o.set i .s) own) Z' ρ φ σ H
  | [], _ => ⟨Z, Sub.refl, R⟩
  | i :: is, hp => by
    obtain ⟨Z1, k1, R1⟩ := R.frzs is fun j hj => hp j (List.mem_cons_of_mem _ hj)
    have hp1 : (is.foldr (fun i o => o.set i .s) own)[i]? ≠ some .p := by
      have h0 := hp i List.mem_cons_self
      clear k1 R1 hp
      induction is with
      | nil => exact h0
      | cons k is ih =>
        intro q
        rcases get_set (show ((is.foldr (fun i o => o.set i .s) own).set k .s)[i]? = some .p from q) with ⟨_, q⟩ | ⟨_, q⟩
        · cases q
        · exact ih q
    obtain ⟨Z2, k2, R2⟩ := R1.frz i hp1
    exact ⟨Z2, k1.trans k2, R2⟩
end
end Pf

set_option Elab.async false
set_option linter.all false
set_option maxRecDepth 100000
set_option maxHeartbeats 4000000
namespace Pf
open PySem PySem.Spec PyProof.Rows L2

/-! ## targets -/
abbrev Tg := D → En → Option En
/-- the slots outside is stand -/
def Agr (is : List Nat) (σ σ' : L2.St) : Prop := σ'.length = σ.length ∧ ∀ j, j ∉ is → σ'[j]? = σ[j]?
theorem Agr.refl {is : List Nat} {σ : L2.St} : Agr is σ σ := ⟨rfl, fun _ _ => rfl⟩
theorem Agr.trans {is js ks : List Nat} {σ σ1 σ2 : L2.St} (a : Agr is σ σ1) (b : Agr js σ1 σ2) (h1 : ∀ j ∈ is, j ∈ ks) (h2 : ∀ j ∈ js, j ∈ ks) : Agr ks σ σ2 :=
  ⟨b.1.trans a.1, fun j hj => (b.2 j fun z => hj (h2 j z)).trans (a.2 j fun z => hj (h1 j z))⟩
theorem wipe_in {σ : L2.St} : ∀ {vs : List Nat} {i : Nat}, i ∈ vs → i < σ.length → (wipe σ vs)[i]? = some none
  | v :: vs, i, h, hi => by
    show ((wipe σ vs).set v none)[i]? = some none
    by_cases e : i = v
    · subst e
      exact List.getElem?_set_self (by rw [wipe_length]; exact hi)
    · rw [List.getElem?_set_ne (Ne.symm e)]
      exact wipe_in ((List.mem_cons.mp h).resolve_left e) hi
theorem Agr.wipe {is vs : List Nat} {σ σ' : L2.St} (a : Agr is σ σ') (h : ∀ j ∈ is, j ∈ vs) : wipe σ' vs = wipe σ vs := by
  refine List.ext_getElem? fun i => ?_
  by_cases hi : i ∈ vs
  · by_cases hl : i < σ.length
    · rw [wipe_in hi hl, wipe_in hi (by rw [a.1]; exact hl)]
    · rw [List.getElem?_eq_none (by rw [wipe_length, a.1]; omega), List.getElem?_eq_none (by rw [wipe_length]; omega)]
  · rw [wipe_out hi, wipe_out hi]
    exact a.2 i fun z => hi (h i z)
def tT (c : Ct) (own on : List Ms) (is : List Nat) (T : Tg) : TG := fun v σ H Q => ∃ Z ρ φ d ρ', Rl c own Z ρ φ σ H ∧ Rep c.K c.f Z v d ∧ T d ρ = some ρ' ∧ ∀ σ', (∀ Z2 H2 φ2, Sub Z Z2 → Rl c own Z2 ρ φ2 σ H2 → Rl c on Z2 ρ' φ2 σ' H2) → Agr is σ σ' → Q σ' H
abbrev TJ (X : Cx) (c : Ct) (own on : List Ms) (is : List Nat) (tg : Expr) (T : Tg) : Prop := PG X tg (tT c own on is T)
abbrev Tgs := List D → En → Option En
def tTs (c : Ct) (own on : List Ms) (is : List Nat) (T : Tgs) : TGs := fun vs σ H Q => ∃ Z ρ φ ds ρ', Rl c own Z ρ φ σ H ∧ Reps c.K c.f Z vs ds ∧ T ds ρ = some ρ' ∧ ∀ σ', (∀ Z2 H2 φ2, Sub Z Z2 → Rl c own Z2 ρ φ2 σ H2 → Rl c on Z2 ρ' φ2 σ' H2) → Agr is σ σ' → Q σ' H
abbrev TJs (X : Cx) (c : Ct) (own on : List Ms) (is : List Nat) (ts : List Expr) (T : Tgs) : Prop := PGs X ts (tTs c own on is T)
theorem PG.weak {X : Cx} {tg : Expr} {t t' : TG} (h : PG X tg t) (k : ∀ v σ H Q, t' v σ H Q → t v σ H Q) : PG X tg t' := ⟨fun pins s σ H v u Q I r q => h.run pins s σ H v u Q I r (k v σ H Q q)⟩
theorem PGs.weak {X : Cx} {tg : List Expr} {t t' : TGs} (h : PGs X tg t) (k : ∀ v σ H Q, t' v σ H Q → t v σ H Q) : PGs X tg t' := ⟨fun pins s σ H v u Q I r q => h.run pins s σ H v u Q I r (k v σ H Q q)⟩
def tgN (i : Nat) : Tg := fun d ρ => some (ρ.set i (some d))
def tsNil : Tgs := fun ds ρ => match ds with | [] => some ρ | _ => none
def tsCons (T : Tg) (U : Tgs) : Tgs := fun ds ρ => match ds with | d :: r => (T d ρ).bind fun ρ1 => U r ρ1 | [] => none
def tgT (n : Nat) (T : Tgs) : Tg := fun d ρ => match d with
  | .tup ds => if ds.length = n then T ds ρ else none
  | _ => none
section
variable {X : Cx} {c : Ct} {own on o1 : List Ms} {m : Md} {W : WX} {pos : Pos}
theorem g_name (i : Nat) {x : Str} (hN : X.N.Nodup) (hi : X.N[i]? = some x := by rfl) (hx : Loc X.env.scope x := by first | exact Or.inl rfl | exact Or.inr rfl) (hf : X.fn x = true ∨ X.env.scope.names.lookup x = some .local := by first | exact .inl rfl | exact .inr rfl) :
    TJ X c own (own.set i .s) [i] (.Name x pos) (tgN i) := by
  refine PG.weak (pg_name hN hi hx hf) ?_
  rintro v σ H Q ⟨Z, ρ, φ, d, ρ', R0, r, e, q⟩
  cases e
  exact q _ (fun Z2 H2 φ2 k R' => R'.setS (r.mono k)) ⟨by simp, fun j hj => List.getElem?_set_ne (by simpa using Ne.symm (by simpa using hj : j ≠ i))⟩
theorem gs_nil : TJs X c own own [] [] tsNil := by
  refine PGs.weak pgs_nil ?_
  rintro v σ H Q ⟨Z, ρ, φ, ds, ρ', R0, r, e, q⟩
  cases r with
  | nil => cases e; exact ⟨rfl, q σ (fun _ _ _ _ R' => R') .refl⟩
  | cons _ _ => cases e
theorem gs_cons {e : Expr} {es : List Expr} {is js : List Nat} {T : Tg} {U : Tgs} (h1 : TJ X c own o1 is e T) (h2 : TJs X c o1 on js es U)
    (hs : (assignEach (e :: es) X.env).map (·.2) = assign e X.env :: (assignEach es X.env).map (·.2) := by rfl) : TJs X c own on (is ++ js) (e :: es) (tsCons T U) := by
  refine PGs.weak (pgs_cons h1 h2 hs) ?_
  rintro vs σ H Q ⟨Z, ρ, φ, ds, ρ', R0, r, e, q⟩
  cases r with
  | nil => cases e
  | @cons v d vs ds r s =>
    obtain ⟨ρ1, e1, e2⟩ := Option.bind_eq_some_iff.mp e
    exact ⟨v, vs, rfl, Z, ρ, φ, d, ρ1, R0, r, e1, fun σ1 t1 a1 => ⟨Z, ρ1, φ, ds, ρ', t1 Z H φ Sub.refl R0, s, e2, fun σ2 t2 a2 => q σ2 (fun Z2 H2 φ2 k R' => t2 Z2 H2 φ2 k (t1 Z2 H2 φ2 k R')) (a1.trans a2 (fun j h => List.mem_append_left _ h) fun j h => List.mem_append_right _ h)⟩⟩
theorem g_tup {es : List Expr} {k : Nat} {is : List Nat} {n : Nat} {T : Tgs} (hK : X.K = c.K) (hc : X.calm = true) (h : TJs X c own on is es T)
    (hn : (assignEach es X.env).length = n := by rfl) (hst : (assignEach es X.env).findIdx? (·.1) = none := by rfl) : TJ X c own on is (.Tuple es k pos) (tgT n T) := by
  refine PG.weak (pg_tup hc h hn hst) ?_
  rintro v σ H Q ⟨Z, ρ, φ, d, ρ', R0, r, e, q⟩
  cases d with
  | tup ds =>
    obtain ⟨a, vs, rfl, ha, rs⟩ := Res.tup (m := .s) (H0 := H) (H := H) r
    have e' : (if ds.length = n then T ds ρ else none) = some ρ' := e
    by_cases hl : ds.length = n
    · rw [if_pos hl] at e'
      exact ⟨a, vs, rfl, by rw [hK]; exact R0.wf.sqT ha, by rw [rs.length]; exact hl, Z, ρ, φ, ds, ρ', R0, rs, e', q⟩
    · rw [if_neg hl] at e'; cases e'
  | _ => cases e
end

/-! ## what is walked -/
/-- what stays of the state at the start: the frozen part; where q, all the heap but the feed -/
def Kp (q : Bool) (c : Ct) (Z0 H0 Z H : Hp) : Prop := (∀ a o, Z0 a = some o → Z a = some o) ∧ (q = true → ∀ a o, a ≠ c.f → H0 a = some o → H a = some o) ∧ (∀ a o, a ≠ c.f → c.H a = some o → H a = some o)
/-- the iterator J yields ds -/
def Walk (q : Bool) (c : Ct) (J : It) (ds : List D) (Z0 H0 : Hp) : Prop := ∀ (i : Nat) (Z H : Hp) (φ : Fd), Kp q c Z0 H0 Z H → Wf c.K c.f Z H φ →
  (i = ds.length → J.stop i H) ∧ ∀ d, ds[i]? = some d → J.go i H ∧ ∀ x H', J.yld i H x H' → ∃ Z', Ext c.f Z H Z' H' ∧ Wf c.K c.f Z' H' φ ∧ Rep c.K c.f Z' x d
def tI (c : Ct) (own : List Ms) (q : Bool) (W : WX) (A : SA) : TI := fun σ H R => ∃ Z ρ φ, Rl c own Z ρ φ σ H ∧ match A ρ φ with
  | .ok ds φ' => ∀ J Z' H', Ext c.f Z H Z' H' → Wf c.K c.f Z' H' φ' → Walk q c J ds Z' H' → R J H'
  | .ex x l φ' => ∀ cls dx Z' H', Ext c.f Z H Z' H' → Wf c.K c.f Z' H' φ' → XRep c Z' H' x l cls dx → W cls dx σ H'
  | .bad => False
abbrev IJ (X : Cx) (c : Ct) (own : List Ms) (q : Bool) (W : WX) (tg e : Expr) (A : SA) : Prop := PI X tg e (tI c own q W A)
section
variable {X : Cx} {c : Ct} {own : List Ms} {q : Bool} {W : WX} {pos : Pos} {tg : Expr}
/-- a list at the start of the walk, later -/
theorem lst_at {Z0 H0 : Hp} {φ0 : Fd} {v : V} {l : List D} (w0 : Wf c.K c.f Z0 H0 φ0) (r : Res (Wm q) c.K c.f H0 Z0 H0 v (.lst l)) :
    ∃ a vs, v = .ref a ∧ H0 a = some (.lst vs) ∧ Reps c.K c.f Z0 vs l ∧ ∀ Z H φ, Kp q c Z0 H0 Z H → Wf c.K c.f Z H φ → H a = some (.lst vs) := by
  cases q with
  | false =>
    have r' : Rep c.K c.f Z0 v (.lst l) := r
    cases r' with
    | cel e rc =>
      cases rc with
      | lst rs => exact ⟨_, _, rfl, w0.sub _ _ e, rs, fun Z H φ k w => w.sub _ _ (k.1 _ _ e)⟩
  | true =>
    have r' : Res .p c.K c.f H0 Z0 H0 v (.lst l) := r
    obtain ⟨a, vs, rfl, ha, rs⟩ := r'.lst w0
    refine ⟨a, vs, rfl, ha, rs, fun Z H φ k w => k.2.1 rfl a _ ?_ ha⟩
    rintro rfl
    obtain ⟨s, _, h2⟩ := w0.feed
    rw [h2] at ha
    cases ha
    -- the feed is no data
    rcases r' with r' | ⟨b, o, eb, _, hf, _⟩
    · cases r' with
      | cel e _ => rw [w0.zf] at e; cases e
    · cases eb; exact hf rfl
theorem walk_list {Z0 H0 : Hp} {a : Addr} {vs : List V} {l : List D} (rs : Reps c.K c.f Z0 vs l) (h : ∀ Z H φ, Kp q c Z0 H0 Z H → Wf c.K c.f Z H φ → H a = some (.lst vs)) : Walk q c (Itl c.K a) l Z0 H0 := by
  intro i Z H φ k w
  have ha := h Z H φ k w
  refine ⟨fun e => ⟨vs, SqL.of ha, by rw [rs.length, e]; exact Nat.le_refl _⟩, fun d hd => ?_⟩
  obtain ⟨y, hy, ry⟩ := rs.get hd
  refine ⟨⟨vs, y, SqL.of ha, hy⟩, fun x H' hx => ?_⟩
  obtain ⟨rfl, hx⟩ := hx
  have := hx vs (SqL.of ha)
  rw [hy] at this
  cases this
  exact ⟨Z, .refl, w, ry.mono k.1⟩
theorem walk_tup {Z0 H0 : Hp} {a : Addr} {vs : List V} {l : List D} (rs : Reps c.K c.f Z0 vs l) (ha : SqT c.K Z0 a vs) : Walk q c (Itt c.K a) l Z0 H0 := by
  intro i Z H φ k w
  have ha := w.sqT (sqT_mono k.1 ha)
  refine ⟨fun e => ⟨vs, ha, by rw [rs.length, e]; exact Nat.le_refl _⟩, fun d hd => ?_⟩
  obtain ⟨y, hy, ry⟩ := rs.get hd
  refine ⟨⟨vs, y, ha, hy⟩, fun x H' hx => ?_⟩
  obtain ⟨rfl, hx⟩ := hx
  have := hx vs ha
  rw [hy] at this
  cases this
  exact ⟨Z, .refl, w, ry.mono k.1⟩
/-- a list, a tuple, a text -/
theorem pi_seqs {l : Expr} {tl : TE} (hl : PE X l tl) : PI X tg l (fun σ H R => tl σ H fun x H1 => (∃ a, x = .ref a ∧ (∃ xs, SqL X.K H1 a xs) ∧ R (Itl X.K a) H1) ∨ (∃ a, x = .ref a ∧ (∃ xs, SqT X.K H1 a xs) ∧ R (Itt X.K a) H1) ∨ ∃ z, x = .str z ∧ R (Its z) H1) := by
  refine ⟨fun pins s σ H R I h => ?_⟩
  refine thn (hl.run pins s σ H _ I h) fun v s1 ⟨x, H1, I1, r1, q1⟩ => ?_
  rcases q1 with ⟨a, rfl, ⟨xs, hq⟩, q⟩ | ⟨a, rfl, ⟨xs, hq⟩, q⟩ | ⟨z, rfl, q⟩
  · cases r1
    obtain ⟨its, rv, p, hz⟩ := I1.list hq
    refine wpAny_pyIter_list p.isList ⟨s1.heap.objs.size, [s1.heap.objs.size], _, _, H1, rfl, I1.kept (t' := s1.toks) fun b o e => Heap.get?_push_of_some _ e, turn_list a _, ⟨_, Heap.get?_push_size _ rfl, rfl, rfl⟩, fun b hb => ?_, q⟩
    obtain rfl : b = s1.heap.objs.size := by simpa using hb
    exact I1.fpOk (Nat.le_refl _) (I1.hok.fresh (Nat.le_refl _))
  · cases r1
    obtain ⟨its, rv, p, hz⟩ := I1.tuple hq
    refine wpAny_pyIter_tuple (show s1.heap.IsTuple a its.toArray from p) ⟨s1.heap.objs.size, [s1.heap.objs.size], _, _, H1, rfl, I1.kept (t' := s1.toks) fun b o e => Heap.get?_push_of_some _ e, turn_tuple a _, ⟨_, Heap.get?_push_size _ rfl, rfl, rfl⟩, fun b hb => ?_, q⟩
    obtain rfl : b = s1.heap.objs.size := by simpa using hb
    exact I1.fpOk (Nat.le_refl _) (I1.hok.fresh (Nat.le_refl _))
  · obtain ⟨t, rfl⟩ := r1
    cases ha : z.cps.all (· < 128)
    · exact wpAny_pyIter_wide ha (pi_one (tk := s1.toks) I1 _ (turn_str _ z t "str_iterator" (.inr rfl)) ⟨_, Heap.get?_push_size _ rfl, rfl, rfl⟩ q)
    · exact wpAny_pyIter_ascii ha (pi_one (tk := s1.toks) I1 _ (turn_str _ z t "str_ascii_iterator" (.inl rfl)) ⟨_, Heap.get?_push_size _ rfl, rfl, rfl⟩ q)
theorem walk_str {Z0 H0 : Hp} {z : Str} : Walk q c (Its z) (z.cps.toList.map fun k => D.str ⟨#[k]⟩) Z0 H0 := by
  intro i Z H φ k w
  refine ⟨fun e => ?_, fun d hd => ?_⟩
  · have e' : i = z.cps.size := by simpa using e
    rw [e']
    exact Nat.le_refl _
  · rw [List.getElem?_map] at hd
    cases e : z.cps.toList[i]? with
    | none => rw [e] at hd; cases hd
    | some k =>
      rw [e] at hd
      cases hd
      rw [Array.getElem?_toList] at e
      refine ⟨(Array.getElem?_eq_some_iff.mp e).1, fun x H' hx => ?_⟩
      obtain ⟨rfl, k', hk, rfl⟩ := hx
      rw [e] at hk
      cases hk
      exact ⟨Z, .refl, w, .str _⟩
/-- the items of a value that is walked -/
def itD : D → Option (List D)
  | .lst l => some l
  | .tup l => some l
  | .str z => some (z.cps.toList.map fun k => D.str ⟨#[k]⟩)
  | _ => none
def iSeq (A : SX) : SA := fun ρ φ => (A ρ φ).bind fun d φ1 => ofO (itD d) φ1
/-! range -/
def upTo (a : Int) : Nat → List D
  | 0 => []
  | n + 1 => .int a :: upTo (a + 1) n
theorem upTo_len : ∀ (n : Nat) (a : Int), (upTo a n).length = n
  | 0, _ => rfl
  | n + 1, a => by show (upTo (a + 1) n).length + 1 = n + 1; rw [upTo_len n]
theorem upTo_get : ∀ (n : Nat) (a : Int) (i : Nat), i < n → (upTo a n)[i]? = some (.int (a + i))
  | n + 1, a, 0, _ => by show some (D.int a) = _; rw [show a + ((0 : Nat) : Int) = a by omega]
  | n + 1, a, i + 1, h => by
    show (upTo (a + 1) n)[i]? = _
    rw [upTo_get n (a + 1) i (by omega), show a + 1 + (i : Int) = a + ((i + 1 : Nat) : Int) by omega]
theorem walk_range {Z0 H0 : Hp} {a : Int} {n : Nat} : Walk q c (Itr a n) (upTo a n) Z0 H0 := by
  intro i Z H φ k w
  refine ⟨fun e => ?_, fun d hd => ?_⟩
  · rw [upTo_len] at e; rw [e]; exact Nat.le_refl _
  · have hi : i < n := by
      have := (List.getElem?_eq_some_iff.mp hd).1
      rwa [upTo_len] at this
    rw [upTo_get n a i hi] at hd
    cases hd
    exact ⟨hi, fun x H' hx => by obtain ⟨rfl, rfl⟩ := hx; exact ⟨Z, .refl, w, .int _⟩⟩
def small62 (j : Int) : Bool := decide (-4611686018427387904 ≤ j) && decide (j < 4611686018427387904)
theorem small62_ok {j : Int} (h : small62 j = true) : -(2 ^ 62) ≤ j ∧ j < 2 ^ 62 := by
  unfold small62 at h
  simp only [Bool.and_eq_true, decide_eq_true_eq] at h
  omega
def rg1 : List D → Option (List D)
  | [.int j] => if small62 j then some (upTo 0 j.toNat) else none
  | _ => none
def rg2 : List D → Option (List D)
  | [.int i, .int j] => if small62 i && small62 j then some (upTo i (j - i).toNat) else none
  | _ => none
theorem rg1_inv {ds l : List D} (h : rg1 ds = some l) : ∃ j, ds = [.int j] ∧ small62 j = true ∧ l = upTo 0 j.toNat := by
  unfold rg1 at h
  split at h
  · obtain ⟨h1, h2⟩ := ifs h
    exact ⟨_, rfl, h1, h2.symm⟩
  · cases h
theorem rg2_inv {ds l : List D} (h : rg2 ds = some l) : ∃ i j, ds = [.int i, .int j] ∧ small62 i = true ∧ small62 j = true ∧ l = upTo i (j - i).toNat := by
  unfold rg2 at h
  split at h
  · obtain ⟨h1, h2⟩ := ifs h
    rw [Bool.and_eq_true] at h1
    exact ⟨_, _, rfl, h1.1, h1.2, h2.symm⟩
  · cases h
def iRg1 (A : SA) : SA := fun ρ φ => (A ρ φ).bind fun ds φ1 => ofO (rg1 ds) φ1
def iRg2 (A : SA) : SA := fun ρ φ => (A ρ φ).bind fun ds φ1 => ofO (rg2 ds) φ1
/-- the wish of a walk -/
def PostI (c : Ct) (q : Bool) (W : WX) (o : O (List D)) (σ : L2.St) (Z H : Hp) (R0 : It → Hp → Prop) : Prop :=
  match o with
  | .ok ds φ' => ∀ J Z' H', Ext c.f Z H Z' H' → Wf c.K c.f Z' H' φ' → Walk q c J ds Z' H' → R0 J H'
  | .ex x l φ' => ∀ cls dx Z' H', Ext c.f Z H Z' H' → Wf c.K c.f Z' H' φ' → XRep c Z' H' x l cls dx → W cls dx σ H'
  | .bad => False
theorem PostI.shift {Z H Z1 H1 : Hp} {σ : L2.St} {o : O (List D)} {R0 : It → Hp → Prop} (e : Ext c.f Z H Z1 H1) (h : PostI c q W o σ Z H R0) : PostI c q W o σ Z1 H1 R0 := by
  cases o with
  | ok d φ => exact fun J Z' H' e' w => h J Z' H' (e.trans e') w
  | ex x l φ => exact fun cls dx Z' H' e' w r => h cls dx Z' H' (e.trans e') w r
  | bad => exact h
theorem Post.bindI {m : Md} {Z H : Hp} {σ : L2.St} {x : O D} {k : D → Fd → O (List D)} {R0 : It → Hp → Prop} {Q : VK} (h : PostI c q W (x.bind k) σ Z H R0)
    (hr : ∀ d φ1 v Z1 H1, Ext c.f Z H Z1 H1 → Wf c.K c.f Z1 H1 φ1 → Res m c.K c.f H Z1 H1 v d → PostI c q W (k d φ1) σ Z1 H1 R0 → Q v H1) : Post c m W x σ Z H Q :=
  Post.bind (E := fun o Z H => PostI c q W o σ Z H R0) (fun _ _ _ e h => h.shift e) (fun _ _ _ h => h) (fun h => h) h hr
theorem PostA.bindI {m : Md} {Z H : Hp} {σ : L2.St} {x : O (List D)} {k : List D → Fd → O (List D)} {R0 : It → Hp → Prop} {Q : List V → Hp → Prop} (h : PostI c q W (x.bind k) σ Z H R0)
    (hr : ∀ d φ1 v Z1 H1, Ext c.f Z H Z1 H1 → Wf c.K c.f Z1 H1 φ1 → RAll m c.K c.f H Z1 H1 v d → PostI c q W (k d φ1) σ Z1 H1 R0 → Q v H1) : PostA c m W x σ Z H Q :=
  PostA.bind (E := fun o Z H => PostI c q W o σ Z H R0) (fun _ _ _ e h => h.shift e) (fun _ _ _ h => h) (fun h => h) h hr
theorem i_seq (hK : X.K = c.K) {a : Expr} {A : SX} (ha : EX X c own (Wm q) W a A) : IJ X c own q W tg a (iSeq A) := by
  refine PI.weak (pi_seqs ha) ?_
  rintro σ H R0 ⟨Z, ρ, φ, R, h⟩
  refine ⟨Z, ρ, φ, R, Post.bindI (R0 := R0) h fun d φ1 v Z1 H1 e1 w1 r1 h1 => ?_⟩
  have r1' : Res (Wm q) c.K c.f H1 Z1 H1 v d := r1.any (by cases q <;> decide)
  obtain ⟨l0, hl, h2⟩ := ofO_ok (E := fun o => PostI c q W o σ Z1 H1 R0) h1 fun z => z
  cases d with
  | lst l =>
    cases hl
    obtain ⟨a, vs, rfl, ha, rs, hk⟩ := lst_at w1 r1'
    exact .inl ⟨a, rfl, ⟨vs, SqL.of ha⟩, by rw [hK]; exact h2 _ Z1 H1 .refl w1 (walk_list rs hk)⟩
  | tup l =>
    cases hl
    obtain ⟨a, vs, rfl, ha, rs⟩ := r1'.tup
    exact .inr (.inl ⟨a, rfl, ⟨vs, by rw [hK]; exact w1.sqT ha⟩, by rw [hK]; exact h2 _ Z1 H1 .refl w1 (walk_tup rs ha)⟩)
  | str z =>
    cases hl
    obtain rfl := r1'.str
    exact .inr (.inr ⟨z, rfl, h2 _ Z1 H1 .refl w1 walk_str⟩)
  | _ => cases hl
/-- a loop over what stood at the start, to be looked at -/
theorem i_seqP (i : Nat) {x : Str} {p : Pos} (hK : X.K = c.K) (ho : own[i]? = some .p := by rfl) (hN : X.N[i]? = some x := by rfl) (hv : Vis X.env.scope x := by first | exact Or.inl rfl | exact Or.inr (Or.inl rfl) | exact Or.inr (Or.inr rfl)) (hd : (x == ("__debug__" : Str)) = false := by decide)
    (hcd : (x == ("__classdict__" : Str)) = false := by decide) : IJ X c own false W tg (.Name x p) (iSeq (eVar i)) := by
  refine PI.weak (pi_seqs (pe_var hN hv hd hcd)) ?_
  rintro σ H R0 ⟨Z, ρ, φ, R, h⟩
  have h' : PostI c false W (iSeq (eVar i) ρ φ) σ Z H R0 := h
  unfold iSeq at h'
  cases hE : eVar i ρ φ with
  | bad => rw [hE] at h'; exact h'.elim
  | ex y l φ' => unfold eVar at hE; split at hE <;> cases hE
  | ok d φ1 =>
    have hd' : ρ[i]? = some (some d) ∧ φ1 = φ := by
      unfold eVar at hE
      split at hE
      · rename_i d' e'; cases hE; exact ⟨e', rfl⟩
      · cases hE
    obtain ⟨hr, rfl⟩ := hd'
    rw [hE] at h'
    obtain ⟨l0, hl, h2⟩ := ofO_ok (E := fun o => PostI c false W o σ Z H R0) (show PostI c false W (ofO (itD d) φ1) σ Z H R0 from h') fun z => z
    obtain ⟨v, hv, r⟩ := R.pk i d hr ho
    refine ⟨v, hv, ?_⟩
    have r1 : Res .p c.K c.f H Z H v d := (show Res .p c.K c.f H c.Z c.H v d from r).pmono R.ext
    cases d with
    | lst l =>
      cases hl
      rcases r with r | ⟨a, o, rfl, hz, hf, ha, rc⟩
      · cases r with
        | cel e rc =>
          cases rc with
          | lst rs => exact .inl ⟨_, rfl, ⟨_, SqL.of (R.wf.sub _ _ (R.ext.z _ _ e))⟩, by rw [hK]; exact h2 _ Z H .refl R.wf (walk_list (rs.mono R.ext.z) fun Z' H' φ' k w => w.sub _ _ (k.1 _ _ (R.ext.z _ _ e)))⟩
      · cases rc with
        | lst rs => exact .inl ⟨_, rfl, ⟨_, SqL.of (R.ext.h _ _ hf ha)⟩, by rw [hK]; exact h2 _ Z H .refl R.wf (walk_list (rs.mono R.ext.z) fun Z' H' φ' k w => k.2.2 _ _ hf ha)⟩
    | tup l =>
      cases hl
      obtain ⟨a, vs, rfl, ha, rs⟩ := r1.tup
      exact .inr (.inl ⟨a, rfl, ⟨vs, by rw [hK]; exact R.wf.sqT ha⟩, by rw [hK]; exact h2 _ Z H .refl R.wf (walk_tup rs ha)⟩)
    | str z =>
      cases hl
      obtain rfl := r1.str
      exact .inr (.inr ⟨z, rfl, h2 _ Z H .refl R.wf walk_str⟩)
    | _ => cases hl
section
variable {a b : Expr} {A : SA} {p : Pos}
theorem i_range1 (hm : X.mg "range" = none) (ha : AX X c own .p W [a] A) (hg : Gl X "range" := by rfl) (hs : starEach [a] X.env = [(false, eval a X.env)] := by rfl) : IJ X c own q W tg (.Call (.Name "range" p) [a] [] pos) (iRg1 A) := by
  refine PI.weak (pi_range1 hg hm ha hs) ?_
  rintro σ H R0 ⟨Z, ρ, φ, R, h⟩
  refine ⟨Z, ρ, φ, R, PostA.bindI (R0 := R0) h fun ds φ1 xs Z1 H1 e1 w1 r1 h1 => ?_⟩
  obtain ⟨l0, hl, h2⟩ := ofO_ok (E := fun o => PostI c q W o σ Z1 H1 R0) h1 fun z => z
  obtain ⟨j, rfl, hj, rfl⟩ := rg1_inv hl
  obtain ⟨x, rfl, r2⟩ := r1.one
  obtain ⟨g1, g2⟩ := small62_ok hj
  exact ⟨j, by rw [r2.int], g1, g2, h2 _ Z1 H1 .refl w1 walk_range⟩
theorem i_range2 (hm : X.mg "range" = none) (ha : AX X c own .p W [a, b] A) (hg : Gl X "range" := by rfl) (hs : starEach [a, b] X.env = [(false, eval a X.env), (false, eval b X.env)] := by rfl) (hs2 : starEach [b] X.env = [(false, eval b X.env)] := by rfl) :
    IJ X c own q W tg (.Call (.Name "range" p) [a, b] [] pos) (iRg2 A) := by
  refine PI.weak (pi_range2 hg hm ha hs hs2) ?_
  rintro σ H R0 ⟨Z, ρ, φ, R, h⟩
  refine ⟨Z, ρ, φ, R, PostA.bindI (R0 := R0) h fun ds φ1 xs Z1 H1 e1 w1 r1 h1 => ?_⟩
  obtain ⟨l0, hl, h2⟩ := ofO_ok (E := fun o => PostI c q W o σ Z1 H1 R0) h1 fun z => z
  obtain ⟨i, j, rfl, hi, hj, rfl⟩ := rg2_inv hl
  obtain ⟨x, y, rfl, r2, r3⟩ := r1.two
  obtain ⟨g1, g2⟩ := small62_ok hi
  obtain ⟨g3, g4⟩ := small62_ok hj
  exact ⟨i, j, by rw [r2.int, r3.int], ⟨g1, g2, g3, g4⟩, h2 _ Z1 H1 .refl w1 walk_range⟩
/-! enumerate, zip -/
def enumD (i : Nat) : List D → List D
  | [] => []
  | d :: r => .tup [.int (i : Nat), d] :: enumD (i + 1) r
theorem enumD_len : ∀ (l : List D) (i : Nat), (enumD i l).length = l.length
  | [], _ => rfl
  | _ :: r, i => by show (enumD (i + 1) r).length + 1 = r.length + 1; rw [enumD_len r]
theorem enumD_get : ∀ (l : List D) (i k : Nat) (e : D), (enumD i l)[k]? = some e → ∃ d, l[k]? = some d ∧ e = .tup [.int ((i + k : Nat) : Int), d]
  | [], _, _, _, h => by cases h
  | d :: r, i, 0, e, h => by
    have h' : some (D.tup [.int (i : Nat), d]) = some e := h
    cases h'
    exact ⟨d, rfl, rfl⟩
  | d :: r, i, k + 1, e, h => by
    obtain ⟨d', h1, h2⟩ := enumD_get r (i + 1) k e h
    exact ⟨d', h1, by rw [h2, show i + 1 + k = i + (k + 1) by omega]⟩
/-- a new pair at p -/
theorem pair_new {Z H : Hp} {φ : Fd} {p : Addr} {vs : List V} {ds : List D} (w : Wf c.K c.f Z H φ) (r : Reps c.K c.f Z vs ds) (hp : H p = none) :
    ∃ Z', Ext c.f Z H Z' (upd H p (.tup vs)) ∧ Wf c.K c.f Z' (upd H p (.tup vs)) φ ∧ Rep c.K c.f Z' (.ref p) (.tup ds) := by
  have h := Post.newT (c := c) (m := .s) (W := fun _ _ _ _ => False) (σ := []) (Q := fun v H' => v = .ref p → H' = upd H p (.tup vs) → ∃ Z', Ext c.f Z H Z' H' ∧ Wf c.K c.f Z' H' φ ∧ Rep c.K c.f Z' v (.tup ds)) w r
    (fun v Z' H' e w' r' _ _ => ⟨Z', e, w', r'⟩) p hp rfl rfl
  exact h
theorem walk_enum {Z0 H0 : Hp} {a : Addr} {vs : List V} {l : List D} (rs : Reps c.K c.f Z0 vs l) (h : ∀ Z H φ, Kp q c Z0 H0 Z H → Wf c.K c.f Z H φ → H a = some (.lst vs)) : Walk q c (Ite c.K a) (enumD 0 l) Z0 H0 := by
  intro i Z H φ k w
  have ha := h Z H φ k w
  refine ⟨fun e => ⟨vs, SqL.of ha, by rw [rs.length, e, enumD_len]; exact Nat.le_refl _⟩, fun d hd => ?_⟩
  obtain ⟨d', h1, rfl⟩ := enumD_get l 0 i d hd
  obtain ⟨y, hy, ry⟩ := rs.get h1
  refine ⟨⟨vs, y, SqL.of ha, hy⟩, fun x H' hx => ?_⟩
  obtain ⟨T, u, rfl, hT, rfl, hu⟩ := hx
  have := hu vs (SqL.of ha)
  rw [hy] at this
  cases this
  refine pair_new w (.cons ?_ (.cons (ry.mono k.1) .nil)) hT
  rw [Nat.zero_add]
  exact .int _
def zipD : List D → List D → List D
  | d :: r, e :: s => .tup [d, e] :: zipD r s
  | _, _ => []
theorem zipD_len : ∀ (l k : List D), (zipD l k).length = min l.length k.length
  | [], _ => by simp [zipD]
  | _ :: _, [] => by simp [zipD]
  | _ :: r, _ :: s => by show (zipD r s).length + 1 = min (r.length + 1) (s.length + 1); rw [zipD_len r s]; omega
theorem zipD_get : ∀ (l k : List D) (i : Nat) (z : D), (zipD l k)[i]? = some z → ∃ d e, l[i]? = some d ∧ k[i]? = some e ∧ z = .tup [d, e]
  | [], _, _, _, h => by cases h
  | _ :: _, [], _, _, h => by cases h
  | d :: r, e :: s, 0, z, h => by
    have h' : some (D.tup [d, e]) = some z := h
    cases h'
    exact ⟨d, e, rfl, rfl, rfl⟩
  | d :: r, e :: s, i + 1, z, h => zipD_get r s i z h
theorem walk_zip {Z0 H0 : Hp} {a b : Addr} {vs us : List V} {l k : List D} (rs : Reps c.K c.f Z0 vs l) (h : ∀ Z H φ, Kp q c Z0 H0 Z H → Wf c.K c.f Z H φ → H a = some (.lst vs))
    (rs' : Reps c.K c.f Z0 us k) (h' : ∀ Z H φ, Kp q c Z0 H0 Z H → Wf c.K c.f Z H φ → H b = some (.lst us)) : Walk q c (Itz c.K a b) (zipD l k) Z0 H0 := by
  intro i Z H φ kp w
  have ha := h Z H φ kp w
  have hb := h' Z H φ kp w
  refine ⟨fun e => ⟨vs, us, SqL.of ha, SqL.of hb, by rw [rs.length, rs'.length, e, zipD_len]; omega⟩, fun d hd => ?_⟩
  obtain ⟨d1, d2, h1, h2, rfl⟩ := zipD_get l k i d hd
  obtain ⟨y1, hy1, ry1⟩ := rs.get h1
  obtain ⟨y2, hy2, ry2⟩ := rs'.get h2
  refine ⟨⟨vs, us, y1, y2, SqL.of ha, SqL.of hb, hy1, hy2⟩, fun x H' hx => ?_⟩
  obtain ⟨T, u1, u2, rfl, hT, rfl, hu1, hu2⟩ := hx
  have t1 := hu1 vs (SqL.of ha)
  have t2 := hu2 us (SqL.of hb)
  rw [hy1] at t1
  rw [hy2] at t2
  cases t1
  cases t2
  exact pair_new w (.cons (ry1.mono kp.1) (.cons (ry2.mono kp.1) .nil)) hT
def iEn (A : SA) : SA := fun ρ φ => (A ρ φ).bind fun ds φ1 => match ds with | [.lst l] => .ok (enumD 0 l) φ1 | _ => .bad
def iZp (A : SA) : SA := fun ρ φ => (A ρ φ).bind fun ds φ1 => match ds with | [.lst l, .lst k] => .ok (zipD l k) φ1 | _ => .bad
theorem RAll.one' {m : Md} {Z H H0 : Hp} {xs : List V} {d : D} (r : RAll m c.K c.f H0 Z H xs [d]) : ∃ x, xs = [x] ∧ Res m c.K c.f H0 Z H x d := by
  match xs, r with
  | [x], r => exact ⟨x, rfl, r.1⟩
  | _ :: _ :: _, r => exact r.2.elim
theorem RAll.two' {m : Md} {Z H H0 : Hp} {xs : List V} {d e : D} (r : RAll m c.K c.f H0 Z H xs [d, e]) : ∃ x y, xs = [x, y] ∧ Res m c.K c.f H0 Z H x d ∧ Res m c.K c.f H0 Z H y e := by
  match xs, r with
  | [x, y], r => exact ⟨x, y, rfl, r.1, r.2.1⟩
  | [_], r => exact r.2.elim
  | _ :: _ :: _ :: _, r => exact r.2.2.elim
theorem i_enum {elts : List Expr} {kk : Nat} {tpos : Pos} (hK : X.K = c.K) (hm : X.mg "enumerate" = none) (ha : AX X c own (Wm q) W [a] A) (hg : Gl X "enumerate" := by rfl) (hs : starEach [a] X.env = [(false, eval a X.env)] := by rfl) :
    IJ X c own q W (.Tuple elts kk tpos) (.Call (.Name "enumerate" p) [a] [] pos) (iEn A) := by
  refine PI.weak (pi_enum hg hm ha hs) ?_
  rintro σ H R0 ⟨Z, ρ, φ, R, h⟩
  refine ⟨Z, ρ, φ, R, PostA.bindI (R0 := R0) h fun ds φ1 xs Z1 H1 e1 w1 r1 h1 => ?_⟩
  revert r1 h1
  split
  · intro r1 h2
    obtain ⟨x, rfl, r2⟩ := r1.one'
    obtain ⟨a, vs, rfl, ha, rs, hk⟩ := lst_at w1 (r2.any (by cases q <;> decide))
    exact ⟨a, vs, rfl, SqL.of ha, by rw [hK]; exact h2 _ Z1 H1 .refl w1 (walk_enum rs hk)⟩
  · intro _ h2
    exact h2.elim
theorem i_zip {elts : List Expr} {kk : Nat} {tpos : Pos} (hK : X.K = c.K) (hm : X.mg "zip" = none) (ha : AX X c own (Wm q) W [a, b] A) (hg : Gl X "zip" := by rfl)
    (hs : starEach [a, b] X.env = (false, eval a X.env) :: starEach [b] X.env := by rfl) (hpl : (backTo pos (starEach [b] X.env)).any (·.1) = false := by rfl) :
    IJ X c own q W (.Tuple elts kk tpos) (.Call (.Name "zip" p) [a, b] [] pos) (iZp A) := by
  refine PI.weak (pi_zip hg hm ha hs hpl) ?_
  rintro σ H R0 ⟨Z, ρ, φ, R, h⟩
  refine ⟨Z, ρ, φ, R, PostA.bindI (R0 := R0) h fun ds φ1 xs Z1 H1 e1 w1 r1 h1 => ?_⟩
  revert r1 h1
  split
  · intro r1 h2
    obtain ⟨x, y, rfl, r2, r3⟩ := r1.two'
    obtain ⟨a, vs, rfl, ha, rs, hk⟩ := lst_at w1 (r2.any (by cases q <;> decide))
    obtain ⟨b, us, rfl, hb, rs', hk'⟩ := lst_at w1 (r3.any (by cases q <;> decide))
    exact ⟨a, b, vs, us, rfl, SqL.of ha, SqL.of hb, by rw [hK]; exact h2 _ Z1 H1 .refl w1 (walk_zip rs hk rs' hk')⟩
  · intro _ h2
    exact h2.elim
end
end
end Pf

set_option Elab.async false
set_option linter.all false
set_option maxRecDepth 100000
set_option maxHeartbeats 4000000
namespace Pf
open PySem PySem.Spec PyProof.Rows L2

/-! ## comprehensions -/
def wipeE (ρ : En) : List Nat → En
  | [] => ρ
  | v :: vs => (wipeE ρ vs).set v none
/-- what raises is no way out of a comprehension -/
def O.still {α : Type} : O α → O α
  | .ok a φ => .ok a φ
  | _ => .bad
/-- the turns of a comprehension -/
def lcGo (T : Tg) (tst : SB) (elt : SX) (ρ : En) : List D → Fd → O (List D)
  | [], φ => .ok [] φ
  | d :: ds, φ => match T d ρ with
    | none => .bad
    | some ρ1 => match tst ρ1 φ with
      | .ok true φ1 => match elt ρ1 φ1 with
        | .ok y φ2 => match lcGo T tst elt ρ ds φ2 with
          | .ok ys φ3 => .ok (y :: ys) φ3
          | _ => .bad
        | _ => .bad
      | .ok false φ1 => lcGo T tst elt ρ ds φ1
      | _ => .bad
def eLc (I : SA) (T : Tg) (tst : SB) (elt : SX) (vs : List Nat) : SX := fun ρ φ => (I ρ φ).bind fun ds φ1 => match lcGo T tst elt (wipeE ρ vs) ds φ1 with
  | .ok ys φ2 => if ys.length ≤ sizeLine then .ok (.lst ys) φ2 else .bad
  | _ => .bad
def bYes : SB := fun _ φ => .ok true φ
theorem lcGo_cons {T : Tg} {tst : SB} {elt : SX} {ρ : En} {d : D} {ds ys : List D} {φ φ' : Fd} (h : lcGo T tst elt ρ (d :: ds) φ = .ok ys φ') :
    ∃ ρ1 b φ1, T d ρ = some ρ1 ∧ tst ρ1 φ = .ok b φ1 ∧ ((b = false ∧ lcGo T tst elt ρ ds φ1 = .ok ys φ') ∨ (b = true ∧ ∃ y φ2 r, elt ρ1 φ1 = .ok y φ2 ∧ lcGo T tst elt ρ ds φ2 = .ok r φ' ∧ ys = y :: r)) := by
  unfold lcGo at h
  cases e1 : T d ρ with
  | none => rw [e1] at h; cases h
  | some ρ1 =>
    rw [e1] at h
    cases e2 : tst ρ1 φ with
    | ex _ _ _ => simp only [e2] at h; cases h
    | bad => simp only [e2] at h; cases h
    | ok b φ1 =>
      cases b with
      | false => simp only [e2] at h; exact ⟨ρ1, false, φ1, rfl, e2, .inl ⟨rfl, h⟩⟩
      | true =>
        simp only [e2] at h
        cases e3 : elt ρ1 φ1 with
        | ex _ _ _ => simp only [e3] at h; cases h
        | bad => simp only [e3] at h; cases h
        | ok y φ2 =>
          simp only [e3] at h
          cases e4 : lcGo T tst elt ρ ds φ2 with
          | ex _ _ _ => simp only [e4] at h; cases h
          | bad => simp only [e4] at h; cases h
          | ok r φ3 =>
            simp only [e4] at h
            cases h
            exact ⟨ρ1, true, φ1, rfl, e2, .inr ⟨rfl, y, φ2, r, e3, e4, rfl⟩⟩
def W0 : WX := fun _ _ _ _ => False
section
variable {c : Ct} {own : List Ms} {Z H Z' H' : Hp} {ρ : En} {φ φ' : Fd} {σ : L2.St}
/-- the slots of a block forgotten -/
theorem Rl.wipe (R : Rl c own Z ρ φ σ H) : ∀ vs : List Nat, Rl c own Z (wipeE ρ vs) φ (L2.wipe σ vs) H
  | [] => R
  | v :: vs => by
    have R1 := R.wipe vs
    show Rl c own Z ((wipeE ρ vs).set v none) φ ((L2.wipe σ vs).set v none) H
    have back : ∀ {j : Nat} {d : D}, ((wipeE ρ vs).set v none)[j]? = some (some d) → j ≠ v ∧ (wipeE ρ vs)[j]? = some (some d) := fun {j d} h => by
      rcases get_set h with ⟨_, q⟩ | ⟨hj, q⟩
      · cases q
      · exact ⟨hj, q⟩
    refine ⟨R1.wf, R1.ext, by simpa using R1.len, fun j d h1 h2 h3 => ?_, fun j d h1 h2 => ?_, fun j k a d e hjk h1 h2 h3 h4 h5 h6 h7 h8 => ?_, fun j d h1 h2 => ?_, fun j d h1 h2 => ?_⟩
    · obtain ⟨hj, q⟩ := back h1
      rw [List.getElem?_set_ne (Ne.symm hj)]
      exact R1.sh j d q h2 h3
    · obtain ⟨hj, q⟩ := back h1
      rw [List.getElem?_set_ne (Ne.symm hj)]
      exact R1.ow j d q h2
    · obtain ⟨hj, q⟩ := back h3
      obtain ⟨hk, q'⟩ := back h5
      rw [List.getElem?_set_ne (Ne.symm hj)] at h7
      rw [List.getElem?_set_ne (Ne.symm hk)] at h8
      exact R1.ne j k a d e hjk h1 h2 q h4 q' h6 h7 h8
    · obtain ⟨hj, q⟩ := back h1
      rw [List.getElem?_set_ne (Ne.symm hj)]
      exact R1.pn j d q h2
    · obtain ⟨hj, q⟩ := back h1
      rw [List.getElem?_set_ne (Ne.symm hj)]
      exact R1.pk j d q h2
end
/-- the own-list within a block -/
def ownB (own : List Ms) (vs : List Nat) : List Ms := vs.foldr (fun i o => o.set i .s) own
theorem ownB_get {own : List Ms} {j : Nat} : ∀ {vs : List Nat}, (ownB own vs)[j]? = some .o → own[j]? = some .o
  | [], h => h
  | v :: vs, h => by
    have h' : ((ownB own vs).set v .s)[j]? = some .o := h
    rcases get_set h' with ⟨_, q⟩ | ⟨_, q⟩
    · cases q
    · exact ownB_get q
theorem ownB_in {own : List Ms} {j : Nat} : ∀ {vs : List Nat}, j ∈ vs → (ownB own vs)[j]? ≠ some .o
  | v :: vs, h => by
    show ((ownB own vs).set v .s)[j]? ≠ some .o
    intro q
    rcases get_set q with ⟨_, q⟩ | ⟨hj, q⟩
    · cases q
    · exact ownB_in ((List.mem_cons.mp h).resolve_left hj) q
theorem ownB_out {own : List Ms} {j : Nat} : ∀ {vs : List Nat}, j ∉ vs → (ownB own vs)[j]? = own[j]?
  | [], _ => rfl
  | v :: vs, h => by
    show ((ownB own vs).set v .s)[j]? = own[j]?
    rw [List.getElem?_set_ne (fun e => h (by rw [e]; exact List.mem_cons_self))]
    exact ownB_out fun q => h (List.mem_cons_of_mem _ q)
theorem wipeE_in {ρ : En} : ∀ {vs : List Nat} {i : Nat} {d : D}, i ∈ vs → (wipeE ρ vs)[i]? ≠ some (some d)
  | v :: vs, i, d, h => by
    show ((wipeE ρ vs).set v none)[i]? ≠ some (some d)
    intro q
    rcases get_set q with ⟨_, q⟩ | ⟨hj, q⟩
    · cases q
    · exact wipeE_in ((List.mem_cons.mp h).resolve_left hj) q
theorem Rl.block {c : Ct} {own : List Ms} {Z H : Hp} {ρ : En} {φ : Fd} {σ : L2.St} (R : Rl c own Z ρ φ σ H) (vs : List Nat) : Rl c (ownB own vs) Z (wipeE ρ vs) φ (L2.wipe σ vs) H := by
  have R1 := R.wipe vs
  refine ⟨R1.wf, R1.ext, R1.len, fun j d h1 h2 h3 => ?_, fun j d h1 h2 => R1.ow j d h1 (ownB_get h2), fun j k a d e hjk h1 h2 => R1.ne j k a d e hjk (ownB_get h1) (ownB_get h2), fun j d h1 h2 => ?_, fun j d h1 h2 => ?_⟩
  · by_cases hj : j ∈ vs
    · exact absurd h1 (wipeE_in hj)
    · exact R1.sh j d h1 (by rw [← ownB_out (vs := vs) hj]; exact h2) (by rw [← ownB_out (vs := vs) hj]; exact h3)
  · have hj : j ∉ vs := fun hj => wipeE_in hj h1
    rw [ownB_out hj] at h2
    exact R1.pn j d h1 h2
  · have hj : j ∉ vs := fun hj => wipeE_in hj h1
    rw [ownB_out hj] at h2
    exact R1.pk j d h1 h2

section
variable {X : Cx} {c : Ct} {own o1 : List Ms} {q : Bool} {W : WX} {pos : Pos}
/-- what the turns of a comprehension need: within the block -/
theorem lc_read {I : SA} {T : Tg} {tst : SB} {elt : SX} {vs is : List Nat} {σ : L2.St} {H : Hp} {Q : VK} (his : ∀ j ∈ is, j ∈ vs) (h : tE c own .o W (eLc I T tst elt vs) σ H Q) :
    tLc (tI c own true W I) (tT c (ownB own vs) o1 is T) (tB c o1 W0 tst) (tE c o1 .s W0 elt) vs σ H Q := by
  obtain ⟨Z, ρ, φ, R, h⟩ := h
  refine ⟨Z, ρ, φ, R, ?_⟩
  unfold eLc at h
  cases hI : I ρ φ with
  | bad => rw [hI] at h; exact h
  | ex y l φ' => rw [hI] at h; exact h
  | ok ds φ1 =>
    rw [hI] at h
    intro J Z1 H1 e1 w1 wk D hD
    have hgo : ∃ ys φ2, lcGo T tst elt (wipeE ρ vs) ds φ1 = .ok ys φ2 ∧ ys.length ≤ sizeLine ∧ Post c .o W (.ok (.lst ys) φ2) σ Z H Q := by
      have h' : Post c .o W (match lcGo T tst elt (wipeE ρ vs) ds φ1 with
        | .ok ys φ2 => if ys.length ≤ sizeLine then .ok (.lst ys) φ2 else .bad
        | _ => .bad) σ Z H Q := h
      cases hg : lcGo T tst elt (wipeE ρ vs) ds φ1 with
      | bad => rw [hg] at h'; exact h'.elim
      | ex _ _ _ => rw [hg] at h'; exact h'.elim
      | ok ys φ2 =>
        rw [hg] at h'
        obtain ⟨h1, h2⟩ := iteO_ok (E := fun o => Post c .o W o σ Z H Q) h' fun z => z
        exact ⟨ys, φ2, rfl, h1, h2⟩
    obtain ⟨tot, φe, hgo, hsz, hpost⟩ := hgo
    have hDf : D ≠ c.f := fun e => w1.hf (by rw [← e]; exact hD)
    have hDz : ∀ Z2 H2, Ext c.f Z1 H1 Z2 H2 → True := fun _ _ _ => trivial
    -- the invariant
    refine ⟨fun i m Hn => m = ds.length - i ∧ i ≤ ds.length ∧ ∃ Zn φn acc accV rest, (∀ a o, Z1 a = some o → Zn a = some o) ∧ (∀ a o, a ≠ c.f → H1 a = some o → Hn a = some o) ∧ (∀ a, H1 a ≠ none → Hn a ≠ none) ∧ (∀ a, H1 a ≠ none → Z1 a = none → Zn a = none) ∧ FdK c.f H1 Hn ∧
      Zn D = none ∧ Wf c.K c.f Zn Hn φn ∧ Hn D = some (.lst accV) ∧ Reps c.K c.f Zn accV acc ∧ lcGo T tst elt (wipeE ρ vs) (ds.drop i) φn = .ok rest φe ∧ acc ++ rest = tot, ⟨ds.length, by simp, Nat.zero_le _, ?_⟩, ?_⟩
    · have up : ∀ b u, H1 b = some u → upd H1 D (.lst []) b = some u := fun b u e => by rw [upd_ne (ne_of_none e hD)]; exact e
      have hz : Z1 D = none := by
        cases e : Z1 D with
        | none => rfl
        | some u => rw [w1.sub D u e] at hD; cases hD
      refine ⟨Z1, φ1, [], [], tot, fun _ _ e => e, fun b u _ e => up b u e, fun b hb => ?_, fun _ _ e => e, .same (upd_ne (Ne.symm hDf)), hz, ⟨fun b u e => up b u (w1.sub b u e), w1.zf, ?_, w1.ok⟩, upd_same, .nil, hgo, rfl⟩
      · cases e : H1 b with
        | none => exact absurd e hb
        | some u => rw [up b u e]; simp
      · obtain ⟨s, k1, k2⟩ := w1.feed
        exact ⟨s, k1, up _ _ k2⟩
    · rintro i m Hn ⟨rfl, hi, Zn, φn, acc, accV, rest, kz, kh, kk, kn, kd, nD, wn, hDn, ra, hg, ht⟩
      have en : Ext c.f Z1 H1 Zn Hn := ⟨kz, kh, kk, kn, kd⟩
      obtain ⟨wk1, wk2⟩ := wk i Zn Hn φn ⟨kz, fun _ => kh, (((R.more e1 w1).ext.trans en)).h⟩ wn
      by_cases hlt : i < ds.length
      · obtain ⟨d, hd⟩ : ∃ d, ds[i]? = some d := ⟨_, List.getElem?_eq_getElem hlt⟩
        obtain ⟨go, step⟩ := wk2 d hd
        rw [List.drop_eq_getElem_cons hlt] at hg
        have hdd : ds[i] = d := by
          rw [List.getElem?_eq_getElem hlt] at hd
          exact Option.some.inj hd
        rw [hdd] at hg
        obtain ⟨ρ1, b, φt, hT, htst, hcase⟩ := lcGo_cons hg
        refine .inr ⟨go, fun H' => ∃ m', m' < ds.length - i ∧ (m' = ds.length - (i + 1) ∧ i + 1 ≤ ds.length ∧ ∃ Zn φn acc accV rest, (∀ a o, Z1 a = some o → Zn a = some o) ∧ (∀ a o, a ≠ c.f → H1 a = some o → H' a = some o) ∧ (∀ a, H1 a ≠ none → H' a ≠ none) ∧ (∀ a, H1 a ≠ none → Z1 a = none → Zn a = none) ∧ FdK c.f H1 H' ∧
          Zn D = none ∧ Wf c.K c.f Zn H' φn ∧ H' D = some (.lst accV) ∧ Reps c.K c.f Zn accV acc ∧ lcGo T tst elt (wipeE ρ vs) (ds.drop (i + 1)) φn = .ok rest φe ∧ acc ++ rest = tot), fun H' h => h, fun x Hx hx => ?_⟩
        obtain ⟨Zx, ex, wx, rx⟩ := step x Hx hx
        have exx := en.trans ex
        have Rb : Rl c (ownB own vs) Zx (wipeE ρ vs) φn (L2.wipe σ vs) Hx := ((R.more e1 w1).more exx wx).block vs
        refine ⟨Zx, wipeE ρ vs, φn, d, ρ1, Rb, rx, hT, fun σ2 tr agr => ⟨?_, Zx, ρ1, φn, tr Zx Hx φn Sub.refl Rb, ?_⟩⟩
        · have hh : L2.wipe σ2 vs = L2.wipe (L2.wipe σ vs) vs := agr.wipe his
          rw [hh]
          refine Agr.wipe (is := vs) ⟨wipe_length _ _, fun j hj => wipe_out hj⟩ fun j h => h
        · have R2 := tr Zx Hx φn Sub.refl Rb
          have nDx : Zx D = none := ex.n D (by rw [hDn]; simp) nD
          have hDx : Hx D = some (.lst accV) := ex.h D _ hDf hDn
          rw [htst]
          intro Z3 H3 e3 w3
          have nD3 : Z3 D = none := e3.n D (by rw [hDx]; simp) nDx
          have hD3 : H3 D = some (.lst accV) := e3.h D _ hDf hDx
          have en3 := exx.trans e3
          have ra3 := (ra.mono ex.z).mono e3.z
          rcases hcase with ⟨rfl, hr⟩ | ⟨rfl, y, φy, r, hy, hr, hys⟩
          · rw [if_neg (by decide)]
            exact ⟨ds.length - (i + 1), by omega, rfl, hlt, Z3, φt, acc, accV, rest, en3.z, en3.h, en3.k, en3.n, en3.d, nD3, w3, hD3, ra3, hr, ht⟩
          · rw [if_pos rfl]
            refine ⟨Z3, ρ1, φt, R2.more e3 w3, ?_⟩
            rw [hy]
            intro v Z4 H4 e4 w4 r4
            have r4' : Rep c.K c.f Z4 v y := r4
            have nD4 : Z4 D = none := e4.n D (by rw [hD3]; simp) nD3
            have hD4 : H4 D = some (.lst accV) := e4.h D _ hDf hD3
            have en4 := en3.trans e4
            have ra4 := ra3.mono e4.z
            have hacc : accV.length < sizeLine := by
              have h1 := ra.length
              have h2 : (acc ++ rest).length ≤ sizeLine := by rw [ht]; exact hsz
              rw [hys, List.length_append, List.length_cons] at h2
              omega
            refine ⟨accV, hD4, hacc, ds.length - (i + 1), by omega, rfl, hlt, Z4, φy, acc ++ [y], accV ++ [v], r, en4.z, fun a o ha hh => ?_, fun a ha => ?_, en4.n, en4.d.trans (.same (upd_ne (Ne.symm hDf))), nD4, ⟨fun a o ha => ?_, w4.zf, ?_, w4.ok⟩, upd_same, ra4.app (.cons r4' .nil), hr, ?_⟩
            · rw [upd_ne (ne_of_none hh hD)]; exact en4.h a o ha hh
            · by_cases hb : a = D
              · rw [hb, upd_same]; simp
              · rw [upd_ne hb]; exact en4.k a ha
            · rw [upd_ne (fun e => by rw [e, nD4] at ha; cases ha)]; exact w4.sub a o ha
            · obtain ⟨s, k1, k2⟩ := w4.feed
              exact ⟨s, k1, by rw [upd_ne (Ne.symm hDf)]; exact k2⟩
            · rw [List.append_assoc]; rw [← ht, hys]; rfl
      · have hie : i = ds.length := by omega
        refine .inl ⟨wk1 hie, ?_⟩
        rw [hie, List.drop_length] at hg
        cases hg
        rw [List.append_nil] at ht
        subst ht
        have e2 := e1.trans en
        refine hpost (.ref D) Zn Hn e2 wn ?_
        show Res .o c.K c.f H Zn Hn (.ref D) (.lst acc)
        unfold Res
        rw [if_pos (by rfl)]
        refine ⟨D, .lst accV, rfl, ?_, nD, hDf, hDn, .lst ra⟩
        cases e : H D with
        | none => rfl
        | some u => exact absurd hD (e1.k D (by rw [e]; simp))
theorem x_lc {elt tg iter : Expr} {ifs : List Expr} {scope : Scope} (nm : List (Str × Nat)) {is : List Nat} {I : SA} {T : Tg} {tst : SB} {elt' : SX} (hc : X.calm = true) (hN : X.N.Nodup) (ok : blkC X.N X.env.scope scope nm = true)
    (hi : IJ X c own true W tg iter I)
    (hg : ∀ (s : Shared) (H : Hp) (C : Addr) (cl : List (Str × Addr)) (fp : List Addr), TJ (X.blk s H scope (compEnvC scope cl C X.env) fp) c (ownB own (nm.map (·.2))) o1 is tg T)
    (ht : ∀ (s : Shared) (H : Hp) (C : Addr) (cl : List (Str × Addr)) (fp : List Addr), PTs (X.blk s H scope (compEnvC scope cl C X.env) fp) ifs (tB c o1 W0 tst))
    (he : ∀ (s : Shared) (H : Hp) (C : Addr) (cl : List (Str × Addr)) (fp : List Addr), EX (X.blk s H scope (compEnvC scope cl C X.env) fp) c o1 .s W0 elt elt')
    (hs : ∀ x, foldedSetIterable iter X.env x = pure x := by intro _; rfl) (hsub : ∀ j ∈ is, j ∈ nm.map (·.2) := by decide) :
    EX X c own .o W (.ListComp elt [⟨tg, iter, ifs, 0⟩] scope pos) (eLc I T tst elt' (nm.map (·.2))) :=
  PE.weak (pe_lc hc hN hi (blkOk_by ok) hg ht he hs) fun _ _ _ h => lc_read hsub h
theorem t_yes : PTs X [] (tB c own W bYes) := ⟨fun pins s σ H Q I ⟨Z, ρ, φ, R, h⟩ => pts_nil.run pins s σ H Q I (h Z H .refl R.wf)⟩
theorem t_one {e : Expr} {A : SB} (h : BX X c own W e A) : PTs X [e] (tB c own W A) := pts_one h
end
end Pf

set_option Elab.async false
set_option linter.all false
set_option maxRecDepth 100000
set_option maxHeartbeats 4000000
namespace Pf
open PySem PySem.Spec PyProof.Rows L2

/-! ## blocks -/
def sNil : SS := fun ρ φ => .nx ρ φ
def R.seq (r : R) (k : SS) : R :=
  match r with
  | .nx ρ φ => k ρ φ
  | r => r
def sSeq (A B : SS) : SS := fun ρ φ => (A ρ φ).seq B
section
variable {X : Cx} {c : Ct} {w : Ow} {own o1 on : List Ms} {pos : Pos}
theorem s_nil : SJs X c w own own [] sNil := PSs.weak pss_nil fun Dn σ H ⟨Z, ρ, φ, R0, h⟩ => h σ Z H Sub.refl R0
theorem s_cons {st : Stmt} {sts : List Stmt} {A B : SS} (h1 : SJ X c w own o1 st A) (h2 : SJs X c w o1 on sts B) : SJs X c w own on (st :: sts) (sSeq A B) := by
  refine PSs.weak (pss_cons h1 h2) ?_
  rintro Dn σ H ⟨Z, ρ, φ, R0, h⟩
  refine ⟨Z, ρ, φ, R0, ?_⟩
  unfold sSeq at h
  cases e : A ρ φ with
  | nx ρ1 φ1 =>
    rw [e] at h
    exact fun σ1 Z1 H1 k R1 => ⟨Z1, ρ1, φ1, R1, h.shift k⟩
  | rt d φ1 => rw [e] at h; exact h
  | bk ρ1 φ1 => rw [e] at h; exact h
  | ct ρ1 φ1 => rw [e] at h; exact h
  | ex y l ρ1 φ1 => rw [e] at h; exact h
  | bad => rw [e] at h; exact h
/-- cells are frozen ahead of a block -/
theorem s_frz (is : List Nat) (hp : ∀ i ∈ is, own[i]? ≠ some .p) {sts : List Stmt} {A : SS} (h : SJs X c w (is.foldr (fun i o => o.set i .s) own) on sts A) : SJs X c w own on sts A := by
  refine PSs.weak h ?_
  rintro Dn σ H ⟨Z, ρ, φ, R0, h⟩
  obtain ⟨Z', k, R1⟩ := R0.frzs is hp
  exact ⟨Z', ρ, φ, R1, h.shift k⟩
theorem s_frz1 (is : List Nat) (hp : ∀ i ∈ is, own[i]? ≠ some .p) {st : Stmt} {A : SS} (h : SJ X c w (is.foldr (fun i o => o.set i .s) own) on st A) : SJ X c w own on st A := by
  refine PS.weak h ?_
  rintro Dn σ H ⟨Z, ρ, φ, R0, h⟩
  obtain ⟨Z', k, R1⟩ := R0.frzs is hp
  exact ⟨Z', ρ, φ, R1, h.shift k⟩
/-- .. behind it -/
theorem s_end (is : List Nat) (hp : ∀ i ∈ is, on[i]? ≠ some .p) {sts : List Stmt} {A : SS} (h : SJs X c w own on sts A) : SJs X c w own (is.foldr (fun i o => o.set i .s) on) sts A := by
  refine PSs.weak h ?_
  rintro Dn σ H ⟨Z, ρ, φ, R0, h⟩
  refine ⟨Z, ρ, φ, R0, ?_⟩
  cases e : A ρ φ with
  | nx ρ1 φ1 =>
    rw [e] at h
    intro σ1 Z1 H1 k R1
    obtain ⟨Z2, k2, R2⟩ := R1.frzs is hp
    exact h σ1 Z2 H1 (k.trans k2) R2
  | rt d φ1 => rw [e] at h; exact h
  | bk ρ1 φ1 => rw [e] at h; exact h
  | ct ρ1 φ1 => rw [e] at h; exact h
  | ex y l ρ1 φ1 => rw [e] at h; exact h
  | bad => rw [e] at h; exact h
/-- a block that never comes to its end may end with any own-list -/
theorem s_any {o2 : List Ms} {sts : List Stmt} {A : SS} (h : SJs X c w own on sts A) (hn : ∀ ρ φ ρ' φ', A ρ φ ≠ .nx ρ' φ') : SJs X c w own o2 sts A := by
  refine PSs.weak h ?_
  rintro Dn σ H ⟨Z, ρ, φ, R0, h⟩
  refine ⟨Z, ρ, φ, R0, ?_⟩
  cases e : A ρ φ with
  | nx ρ1 φ1 => exact absurd e (hn _ _ _ _)
  | rt d φ1 => rw [e] at h; exact h
  | bk ρ1 φ1 => rw [e] at h; exact h
  | ct ρ1 φ1 => rw [e] at h; exact h
  | ex y l ρ1 φ1 => rw [e] at h; exact h
  | bad => rw [e] at h; exact h

/-! ## simple statements -/
def sSet (i : Nat) (A : SX) : SS := fun ρ φ => (A ρ φ).toR ρ fun d φ1 => .nx (ρ.set i (some d)) φ1
theorem set_read (i : Nat) {A : SX} {m : Md} {Dn : Ends} {σ : L2.St} {H : Hp} (hx : w.ox own) (hm : (m = .o ∧ i < own.length ∧ on = own.set i .o) ∨ (m = .s ∧ on = own.set i .s)) (h : tS c w own on (sSet i A) Dn σ H) :
    tAsg (tE c own m w.W A) (gName i) Dn σ H := by
  obtain ⟨Z, ρ, φ, R0, h⟩ := h
  refine ⟨Z, ρ, φ, R0, Post.toS (w := w) hx R0 h fun d φ1 v Z1 H1 e1 w1 r1 h1 => ?_⟩
  rcases hm with ⟨rfl, hi, rfl⟩ | ⟨rfl, rfl⟩
  · exact h1 _ Z1 H1 Sub.refl (R0.setO e1 w1 hi r1)
  · exact h1 _ Z1 H1 Sub.refl ((R0.more e1 w1).setS r1)
theorem s_setO (i : Nat) {x : Str} {e : Expr} {A : SX} {pos' : Pos} (hN : X.N.Nodup) (ha : EX X c own .o w.W e A) (hi : X.N[i]? = some x := by rfl) (hx : Loc X.env.scope x := by first | exact Or.inl rfl | exact Or.inr rfl) (hl : i < own.length := by decide)
    (hs : swapsWith e (some (.Name x pos')) pos.line X.env = pure false := by rfl) (hf : X.fn x = true ∨ X.env.scope.names.lookup x = some .local := by first | exact .inl rfl | exact .inr rfl) (ho : w.ox own := by first | exact trivial | rfl) :
    SJ X c w own (own.set i .o) (.Assign [.Name x pos'] e pos) (sSet i A) :=
  PS.weak (ps_set hN hi hx ha hs hf) fun Dn σ H h => set_read i ho (.inl ⟨rfl, hl, rfl⟩) h
theorem s_setS (i : Nat) {x : Str} {e : Expr} {A : SX} {pos' : Pos} (hN : X.N.Nodup) (ha : EX X c own .s w.W e A) (hi : X.N[i]? = some x := by rfl) (hx : Loc X.env.scope x := by first | exact Or.inl rfl | exact Or.inr rfl)
    (hs : swapsWith e (some (.Name x pos')) pos.line X.env = pure false := by rfl) (hf : X.fn x = true ∨ X.env.scope.names.lookup x = some .local := by first | exact .inl rfl | exact .inr rfl) (ho : w.ox own := by first | exact trivial | rfl) :
    SJ X c w own (own.set i .s) (.Assign [.Name x pos'] e pos) (sSet i A) :=
  PS.weak (ps_set hN hi hx ha hs hf) fun Dn σ H h => set_read i ho (.inr ⟨rfl, rfl⟩) h
/-- name = [.. for ..], the name a local of the def -/
theorem s_setLc (i : Nat) {y : Str} {py : Pos} {elt tg iter : Expr} {ifs : List Expr} {scope : Scope} (nm : List (Str × Nat)) {is : List Nat} {I : SA} {T : Tg} {tst : SB} {elt' : SX} {lcp : Pos} (hc : X.calm = true) (hN : X.N.Nodup) (ok : blkC X.N X.env.scope scope nm = true)
    (hi : IJ X c own true w.W tg iter I)
    (hg : ∀ (s : Shared) (H : Hp) (C : Addr) (cl : List (Str × Addr)) (fp : List Addr), TJ (X.blk s H scope (compEnvC scope cl C X.env) fp) c (ownB own (nm.map (·.2))) o1 is tg T)
    (ht : ∀ (s : Shared) (H : Hp) (C : Addr) (cl : List (Str × Addr)) (fp : List Addr), PTs (X.blk s H scope (compEnvC scope cl C X.env) fp) ifs (tB c o1 W0 tst))
    (he : ∀ (s : Shared) (H : Hp) (C : Addr) (cl : List (Str × Addr)) (fp : List Addr), EX (X.blk s H scope (compEnvC scope cl C X.env) fp) c o1 .s W0 elt elt')
    (hy : X.N[i]? = some y := by rfl) (hyl : X.env.scope.names.lookup y = some .local := by rfl) (hsw : swapsWith (.ListComp elt [⟨tg, iter, ifs, 0⟩] scope lcp) (some (.Name y py)) pos.line X.env = pure true := by exact sw_true rfl rfl rfl (by decide +kernel))
    (hl : i < own.length := by decide) (hs : ∀ x, foldedSetIterable iter X.env x = pure x := by intro _; rfl) (hsub : ∀ j ∈ is, j ∈ nm.map (·.2) := by decide) (ho : w.ox own := by first | exact trivial | rfl) :
    SJ X c w own (own.set i .o) (.Assign [.Name y py] (.ListComp elt [⟨tg, iter, ifs, 0⟩] scope lcp) pos) (sSet i (eLc I T tst elt' (nm.map (·.2)))) := by
  refine PS.weak (ps_setLc hc hN hy hyl hsw hi (blkOk_by ok) hg ht he hs) fun Dn σ H h => ?_
  have h2 := set_read (m := .o) i ho (.inl ⟨rfl, hl, rfl⟩) h
  exact lc_read hsub h2
/-- targets of several names -/
def sAsg (T : Tg) (A : SX) : SS := fun ρ φ => (A ρ φ).toR ρ fun d φ1 => match T d ρ with
  | some ρ' => .nx ρ' φ1
  | none => .bad
theorem s_asg {tg e : Expr} {T : Tg} {A : SX} {is : List Nat} (ha : EX X c own .s w.W e A) (hg : TJ X c own on is tg T) (hs : swapsWithSole [tg] e pos.line X.env = pure false := by rfl) (hw : swappedStores [tg] e X.env = pure none := by rfl)
    (h1 : (assignEach [tg] X.env).map (·.2) = [assign tg X.env] := by rfl) (ho : w.ox own := by first | exact trivial | rfl) : SJ X c w own on (.Assign [tg] e pos) (sAsg T A) := by
  refine PS.weak (ps_asg ha hg hs hw h1) ?_
  rintro Dn σ H ⟨Z, ρ, φ, R0, h⟩
  refine ⟨Z, ρ, φ, R0, Post.toS (w := w) ho R0 h fun d φ1 v Z1 H1 e1 w1 r1 h1 => ?_⟩
  cases eT : T d ρ with
  | none => simp only [eT] at h1; exact h1.elim
  | some ρ' =>
    simp only [eT] at h1
    exact ⟨Z1, ρ, φ1, d, ρ', R0.more e1 w1, r1, eT, fun σ' tr _ => h1 σ' Z1 H1 Sub.refl (tr Z1 H1 φ1 Sub.refl (R0.more e1 w1))⟩
/-- a, b = x, y: the values first -/
def sPar (i j : Nat) (A : SA) : SS := fun ρ φ => (A ρ φ).toR ρ fun ds φ1 => match ds with
  | [d, e] => .nx ((ρ.set i (some d)).set j (some e)) φ1
  | _ => .bad
theorem s_par (i j : Nat) {x y : Str} {a b : Expr} {A : SA} {px py pt : Pos} {kt k2 pt2} (hc : X.calm = true) (hN : X.N.Nodup) (ha : AX X c own .s w.W [a, b] A) (hi : X.N[i]? = some x := by rfl) (hj : X.N[j]? = some y := by rfl) (hij : i ≠ j := by decide)
    (hx : X.env.scope.names.lookup x = some .local := by rfl) (hy : X.env.scope.names.lookup y = some .local := by rfl)
    (hw : swappedStores [.Tuple [.Name x px, .Name y py] kt pt] (.Tuple [a, b] k2 pt2) X.env = pure (some [x, y]) := by rfl)
    (hs : swapsWithSole [.Tuple [.Name x px, .Name y py] kt pt] (.Tuple [a, b] k2 pt2) pos.line X.env = pure false := by rfl) (ho : w.ox own := by first | exact trivial | rfl) :
    SJ X c w own ((own.set i .s).set j .s) (.Assign [.Tuple [.Name x px, .Name y py] kt pt] (.Tuple [a, b] k2 pt2) pos) (sPar i j A) := by
  refine PS.weak (ps_par hc hN hi hj hij hx hy ha hw hs) ?_
  rintro Dn σ H ⟨Z, ρ, φ, R0, h⟩
  refine ⟨Z, ρ, φ, R0, PostA.toS (w := w) ho R0 h fun ds φ1 vs Z1 H1 e1 w1 r1 h1 => ?_⟩
  revert r1 h1
  split
  · intro r1 h1
    obtain ⟨u, v, rfl, r2, r3⟩ := r1.two'
    exact ⟨u, v, rfl, h1 _ Z1 H1 Sub.refl (((R0.more e1 w1).setS r2).setS r3)⟩
  · intro _ h1
    exact h1.elim
/-- an expression alone -/
def sExp (A : SX) : SS := fun ρ φ => (A ρ φ).toR ρ fun _ φ1 => .nx ρ φ1
theorem s_exp {e : Expr} {A : SX} {m : Md} (ha : EX X c own m w.W e A) (hs : swapsWith e none pos.line X.env = pure false := by rfl) (ho : w.ox own := by first | exact trivial | rfl) : SJ X c w own own (.Expr e pos) (sExp A) := by
  refine PS.weak (ps_expr ha hs) ?_
  rintro Dn σ H ⟨Z, ρ, φ, R0, h⟩
  exact ⟨Z, ρ, φ, R0, Post.toS (w := w) ho R0 h fun d φ1 v Z1 H1 e1 w1 r1 h1 => h1 σ Z1 H1 Sub.refl (R0.more e1 w1)⟩
theorem s_doc {x j pos'} : SJ X c w own own (.Expr (.Constant (.str x) j pos) pos') sNil := PS.weak ps_doc fun Dn σ H ⟨Z, ρ, φ, R0, h⟩ => h σ Z H Sub.refl R0
theorem s_pass : SJ X c w own own (.Pass pos) sNil := PS.weak ps_pass fun Dn σ H ⟨Z, ρ, φ, R0, h⟩ => h σ Z H Sub.refl R0
def sBrk : SS := fun ρ φ => .bk ρ φ
def sCnt : SS := fun ρ φ => .ct ρ φ
theorem s_brk {m : Md} {W : WX} {ox : List Ms → Prop} : SJ X c ⟨m, W, ox, own⟩ own on (.Break pos) sBrk := PS.weak ps_break fun Dn σ H ⟨Z, ρ, φ, R0, h⟩ => h σ Z H Sub.refl R0
theorem s_cnt {m : Md} {W : WX} {ox : List Ms → Prop} : SJ X c ⟨m, W, ox, own⟩ own on (.Continue pos) sCnt := PS.weak ps_continue fun Dn σ H ⟨Z, ρ, φ, R0, h⟩ => h σ Z H Sub.refl R0
/-- return e -/
def sRet (A : SX) : SS := fun ρ φ => (A ρ φ).toR ρ fun d φ1 => .rt d φ1
theorem s_ret {e : Expr} {A : SX} (ha : EX X c own w.m w.W e A) (ho : w.ox own := by first | exact trivial | rfl) : SJ X c w own on (.Return (some e) pos) (sRet A) := by
  refine PS.weak (ps_ret ha) ?_
  rintro Dn σ H ⟨Z, ρ, φ, R0, h⟩
  refine ⟨Z, ρ, φ, R0, Post.toS (w := w) ho R0 h fun d φ1 v Z1 H1 e1 w1 r1 h1 => ?_⟩
  exact h1 v Z1 H1 (R0.more e1 w1).ext w1 (r1.start R0.ext.k)
/-- return x, x an own name: it goes out as it is -/
theorem s_retN (i : Nat) {x : Str} {p : Pos} (hm : w.m = .o := by rfl) (hw : own[i]? = some .o := by rfl) (hN : X.N[i]? = some x := by rfl) (hv : Vis X.env.scope x := by first | exact Or.inl rfl | exact Or.inr (Or.inl rfl) | exact Or.inr (Or.inr rfl)) (hd : (x == ("__debug__" : Str)) = false := by decide)
    (hcd : (x == ("__classdict__" : Str)) = false := by decide) : SJ X c w own on (.Return (some (.Name x p)) pos) (sRet (eVar i)) := by
  refine PS.weak (ps_ret (pe_var hN hv hd hcd)) ?_
  rintro Dn σ H ⟨Z, ρ, φ, R0, h⟩
  unfold sRet eVar at h
  split at h
  · rename_i d hdd
    obtain ⟨v, hv, r⟩ := R0.ow i d hdd hw
    exact ⟨v, hv, h v Z H R0.ext R0.wf (by rw [hm]; exact r)⟩
  · exact h.elim
def sRetN : SS := fun _ φ => .rt .non φ
theorem s_ret0 : SJ X c w own on (.Return none pos) sRetN := PS.weak ps_retN fun Dn σ H ⟨Z, ρ, φ, R0, h⟩ => h _ Z H R0.ext R0.wf (Res.of_flat .non rfl)
/-- if -/
def sIf (T : SB) (A B : SS) : SS := fun ρ φ => (T ρ φ).toR ρ fun b φ1 => if b = true then A ρ φ1 else B ρ φ1
theorem s_if {t : Expr} {a b : List Stmt} {T : SB} {A B : SS} (ht : BX X c own w.W t T) (ha : SJs X c w own on a A) (hb : SJs X c w own on b B) (ho : w.ox own := by first | exact trivial | rfl) : SJ X c w own on (.If t a b pos) (sIf T A B) := by
  refine PS.weak (ps_if ht ha hb) ?_
  rintro Dn σ H ⟨Z, ρ, φ, R0, h⟩
  refine ⟨Z, ρ, φ, R0, PostB.toS (w := w) ho R0 h fun d φ1 Z1 H1 e1 w1 h1 => ?_⟩
  cases d with
  | true => exact ⟨Z1, ρ, φ1, R0.more e1 w1, h1⟩
  | false => exact ⟨Z1, ρ, φ1, R0.more e1 w1, h1⟩

/-! ## own lists changed -/
/-- x.meth(e), x an own list: g the new list -/
def sMut (i : Nat) (g : List D → D → Option (List D)) (A : SX) : SS := fun ρ φ => match ρ[i]? with
  | some (some (.lst l)) => (A ρ φ).toR ρ fun e φ1 => (match g l e with | some l' => .nx (ρ.set i (some (.lst l'))) φ1 | none => .bad)
  | _ => .bad
theorem Rl.cell {Z H : Hp} {ρ : En} {φ : Fd} {σ : L2.St} (R0 : Rl c own Z ρ φ σ H) {i : Nat} {ds : List D} (ho : own[i]? = some .o) (hd : ρ[i]? = some (some (.lst ds))) : ∃ a vs, σ[i]? = some (some (.ref a)) ∧ H a = some (.lst vs) ∧ Reps c.K c.f Z vs ds ∧ Z a = none := by
  obtain ⟨u, hu, ru⟩ := R0.ow i _ hd ho
  unfold Res at ru
  rw [if_pos (by rfl)] at ru
  obtain ⟨a, o, rfl, _, hz, _, ha, rc⟩ := ru
  cases rc with
  | lst q => exact ⟨a, _, hu, ha, q, hz⟩
/-- g tells what the rule r asks -/
def MutG (r : V → List V → Hp → VK → Prop) (c : Ct) (m : Md) (g : List D → D → Option (List D)) : Prop :=
  ∀ (Z H H0 : Hp) (φ : Fd) (a : Addr) (vs : List V) (ds ds' : List D) (y : V) (e : D) (Q : VK), Wf c.K c.f Z H φ → H a = some (.lst vs) → Reps c.K c.f Z vs ds → Res m c.K c.f H0 Z H y e → g ds e = some ds' →
    (∀ vs', Reps c.K c.f Z vs' ds' → Q .non (upd H a (.lst vs'))) → r (.ref a) [y] H Q
theorem s_mut1 (i : Nat) {x nm : Str} {e : Expr} {A : SX} {p apos cpos pos2 : Pos} {m : Md} {r : V → List V → Hp → VK → Prop} {g : List D → D → Option (List D)} (hG : MutG r c m g)
    (hpe : PE X (.Call (.Attribute (.Name x p) nm apos) [e] [] cpos) (tBM X.K "list" r (tVar i) (tCons (tE c own m w.W A) tNil))) (hw : own[i]? = some .o := by rfl)
    (hs : swapsWith (.Call (.Attribute (.Name x p) nm apos) [e] [] cpos) none pos2.line X.env = pure false := by rfl) (ho : w.ox own := by first | exact trivial | rfl) :
    SJ X c w own own (.Expr (.Call (.Attribute (.Name x p) nm apos) [e] [] cpos) pos2) (sMut i g A) := by
  refine PS.weak (ps_expr hpe hs) ?_
  rintro Dn σ H ⟨Z, ρ, φ, R0, h⟩
  unfold sMut at h
  split at h
  · rename_i l hd
    obtain ⟨a, vs, ha, hH, rs, hz⟩ := R0.cell hw hd
    refine ⟨.ref a, ha, .inl ⟨rfl, vs, .inl (.inl hH)⟩, Z, ρ, φ, R0, Post.toS (w := w) ho R0 h fun d φ1 v Z1 H1 e1 w1 r1 h1 => ?_⟩
    split at h1
    · rename_i l' hg
      have R1 := R0.more e1 w1
      obtain ⟨b, us, hb, hH1, rs1, hz1⟩ := Rl.cell R1 hw hd
      rw [ha] at hb
      cases hb
      refine hG Z1 H1 H φ1 a us l l' v d _ w1 hH1 rs1 r1 hg fun vs' rs' => ?_
      exact h1 σ Z1 _ Sub.refl (R1.write hw hd rfl ha (.lst rs'))
    · exact h1.elim
  · exact h.elim
def gApp (l : List D) (e : D) : Option (List D) := if l.length < sizeLine then some (l ++ [e]) else none
def gExt (l : List D) (e : D) : Option (List D) := match e with
  | .lst k => if l.length + k.length ≤ sizeLine then some (l ++ k) else none
  | _ => none
theorem gApp_ok : MutG rAppend c .s gApp := by
  intro Z H H0 φ a vs ds ds' y e Q w ha rs ry hg h
  obtain ⟨hz, rfl⟩ := ifs hg
  exact ⟨a, vs, y, rfl, rfl, ha, by rw [rs.length]; exact hz, h _ (rs.app (.cons (show Rep c.K c.f Z y e from ry) .nil))⟩
theorem gExt_ok : MutG rExtend c .p gExt := by
  intro Z H H0 φ a vs ds ds' y e Q w ha rs ry hg h
  cases e with
  | lst k =>
    obtain ⟨hz, rfl⟩ := ifs hg
    obtain ⟨b, us, rfl, hb, rs'⟩ := (show Res .p c.K c.f H Z H y (.lst k) from ry).lst w
    exact ⟨a, b, vs, us, rfl, rfl, ha, hb, by rw [rs.length, rs'.length]; exact hz, h _ (rs.app rs')⟩
  | _ => cases hg
/-- x.append(e) -/
theorem s_append (i : Nat) {x : Str} {e : Expr} {A : SX} {p apos cpos pos2 : Pos} (ha : EX X c own .s w.W e A) (hw : own[i]? = some .o := by rfl) (hN : X.N[i]? = some x := by rfl) (hv : Vis X.env.scope x := by first | exact Or.inl rfl | exact Or.inr (Or.inl rfl) | exact Or.inr (Or.inr rfl))
    (hd : (x == ("__debug__" : Str)) = false := by decide) (hcd : (x == ("__classdict__" : Str)) = false := by decide)
    (hbase : attributeBase (.Name x p) "append" X.env (eval (.Name x p) X.env) = eval (.Name x p) X.env := by rfl)
    (hfew : ((backTo cpos (starEach [e] X.env)).all (fun x => !x.1) && (backToKw cpos (keywordEach [] X.env)).all (fun x => x.1.isSome) && decide ([e].length + ([] : List Keyword).length + (if ([] : List Keyword).isEmpty then 0 else 1) < 30)) = true := by rfl)
    (hline : (apos.endLine == cpos.line) = true := by rfl) (hse : starEach [e] X.env = (false, eval e X.env) :: starEach [] X.env := by rfl) (hplain : (backTo cpos (starEach [] X.env)).any (·.1) = false := by rfl)
    (hs : swapsWith (.Call (.Attribute (.Name x p) "append" apos) [e] [] cpos) none pos2.line X.env = pure false := by rfl) (ho : w.ox own := by first | exact trivial | rfl) :
    SJ X c w own own (.Expr (.Call (.Attribute (.Name x p) "append" apos) [e] [] cpos) pos2) (sMut i gApp A) :=
  s_mut1 i gApp_ok (pe_bm PySem.F.plainAttrs_list PySem.F.slot_list_append PySem.F.type_list_append mt_append (pe_var hN hv hd hcd) (pa_cons ha pa_nil hse) hbase hfew hline hse hplain) hw hs ho
theorem s_extend (i : Nat) {x : Str} {e : Expr} {A : SX} {p apos cpos pos2 : Pos} (ha : EX X c own .p w.W e A) (hw : own[i]? = some .o := by rfl) (hN : X.N[i]? = some x := by rfl) (hv : Vis X.env.scope x := by first | exact Or.inl rfl | exact Or.inr (Or.inl rfl) | exact Or.inr (Or.inr rfl))
    (hd : (x == ("__debug__" : Str)) = false := by decide) (hcd : (x == ("__classdict__" : Str)) = false := by decide)
    (hbase : attributeBase (.Name x p) "extend" X.env (eval (.Name x p) X.env) = eval (.Name x p) X.env := by rfl)
    (hfew : ((backTo cpos (starEach [e] X.env)).all (fun x => !x.1) && (backToKw cpos (keywordEach [] X.env)).all (fun x => x.1.isSome) && decide ([e].length + ([] : List Keyword).length + (if ([] : List Keyword).isEmpty then 0 else 1) < 30)) = true := by rfl)
    (hline : (apos.endLine == cpos.line) = true := by rfl) (hse : starEach [e] X.env = (false, eval e X.env) :: starEach [] X.env := by rfl) (hplain : (backTo cpos (starEach [] X.env)).any (·.1) = false := by rfl)
    (hs : swapsWith (.Call (.Attribute (.Name x p) "extend" apos) [e] [] cpos) none pos2.line X.env = pure false := by rfl) (ho : w.ox own := by first | exact trivial | rfl) :
    SJ X c w own own (.Expr (.Call (.Attribute (.Name x p) "extend" apos) [e] [] cpos) pos2) (sMut i gExt A) :=
  s_mut1 i gExt_ok (pe_bm PySem.F.plainAttrs_list PySem.F.slot_list_extend PySem.F.type_list_extend mt_extend (pe_var hN hv hd hcd) (pa_cons ha pa_nil hse) hbase hfew hline hse hplain) hw hs ho
/-- x[k] = e, x an own list -/
def sPut (i : Nat) (A B : SX) : SS := fun ρ φ => (A ρ φ).toR ρ fun d φ1 => match ρ[i]? with
  | some (some (.lst l)) => (B ρ φ1).toR ρ fun k φ2 => (match k with
    | .int z => (match ixN l.length z with | some j => .nx (ρ.set i (some (.lst (l.set j d)))) φ2 | none => .bad)
    | _ => .bad)
  | _ => .bad
theorem s_put (i : Nat) {x : Str} {e k : Expr} {A B : SX} {p p2 : Pos} (ha : EX X c own .s w.W e A) (hk : EX X c own .p w.W k B) (hw : own[i]? = some .o := by rfl) (hN : X.N[i]? = some x := by rfl) (hv : Vis X.env.scope x := by first | exact Or.inl rfl | exact Or.inr (Or.inl rfl) | exact Or.inr (Or.inr rfl))
    (hd : (x == ("__debug__" : Str)) = false := by decide) (hcd : (x == ("__classdict__" : Str)) = false := by decide)
    (hst : ∀ v, assign (.Subscript (.Name x p) k p2) X.env v = (do
      let ov ← holding [v] (eval (.Name x p) X.env)
      let iv ← holding [v, ov] (eval k X.env)
      standAt p2
      holding [v, ov, iv] (setItem ov iv v)
      release [v, ov, iv] []) := by intro _; rfl)
    (hs : swapsWithSole [.Subscript (.Name x p) k p2] e pos.line X.env = pure false := by rfl) (hsw : swappedStores [.Subscript (.Name x p) k p2] e X.env = pure none := by rfl)
    (h1 : (assignEach [.Subscript (.Name x p) k p2] X.env).map (·.2) = [assign (.Subscript (.Name x p) k p2) X.env] := by rfl) (ho : w.ox own := by first | exact trivial | rfl) :
    SJ X c w own own (.Assign [.Subscript (.Name x p) k p2] e pos) (sPut i A B) := by
  refine PS.weak (ps_asg ha (pg_sub (pe_var hN hv hd hcd) hk set_list hst) hs hsw h1) ?_
  rintro Dn σ H ⟨Z, ρ, φ, R0, h⟩
  refine ⟨Z, ρ, φ, R0, Post.toS (w := w) ho R0 h fun d φ1 v Z1 H1 e1 w1 r1 h1 => ?_⟩
  split at h1
  · rename_i l hdd
    have R1 := R0.more e1 w1
    obtain ⟨a, vs, hav, hH, rs, hz⟩ := R1.cell hw hdd
    refine ⟨.ref a, hav, Z1, ρ, φ1, R1, Post.toS (w := w) ho R1 h1 fun kd φ2 kv Z2 H2 e2 w2 r2 h2 => ?_⟩
    cases kd with
    | int z =>
      have R2 := R1.more e2 w2
      obtain ⟨b, us, hb, hH2, rs2, hz2⟩ := R2.cell hw hdd
      rw [hav] at hb
      cases hb
      have h2' : PostS c w own (match ixN l.length z with | some j => R.nx (ρ.set i (some (.lst (l.set j d)))) φ2 | none => .bad) Dn Z2 := h2
      split at h2'
      · rename_i j hj
        exact ⟨a, us, z, j, rfl, r2.int, hH2, by rw [rs2.length]; exact hj, h2' σ Z2 _ Sub.refl (R2.write hw hdd rfl hav (.lst (rs2.set (Rep.mono e2.z r1) j)))⟩
      · exact h2'.elim
    | _ => exact h2.elim
  · exact h1.elim
/-- x += e, ints -/
def sAug (i : Nat) (f : Int → Int → Int) (A : SX) : SS := fun ρ φ => match ρ[i]? with
  | some (some (.int z)) => (A ρ φ).toR ρ fun e φ1 => (match e with | .int k => .nx (ρ.set i (some (.int (f z k)))) φ1 | _ => .bad)
  | _ => .bad
theorem s_aug (i : Nat) {x : Str} {e : Expr} {A : SX} {op : Operator} {f : Int → Int → Int} {p : Pos} (hop : PIp X op (ipI f)) (hNd : X.N.Nodup) (ha : EX X c own .p w.W e A) (hN : X.N[i]? = some x := by rfl) (hx : Loc X.env.scope x := by first | exact Or.inl rfl | exact Or.inr rfl)
    (hf : X.fn x = true ∨ X.env.scope.names.lookup x = some .local := by first | exact .inl rfl | exact .inr rfl) (ho : w.ox own := by first | exact trivial | rfl) : SJ X c w own (own.set i .s) (.AugAssign (.Name x p) op e pos) (sAug i f A) := by
  refine PS.weak (ps_aug hNd hN hx ha hop hf) ?_
  rintro Dn σ H ⟨Z, ρ, φ, R0, h⟩
  unfold sAug at h
  split at h
  · rename_i z hz
    obtain ⟨v, hv, rv⟩ := R0.look hz
    refine ⟨v, hv, Z, ρ, φ, R0, Post.toS (w := w) ho R0 h fun d φ1 u Z1 H1 e1 w1 r1 h1 => ?_⟩
    cases d with
    | int k => exact ⟨z, k, rv.int, r1.int, h1 _ Z1 H1 Sub.refl ((R0.more e1 w1).setS (.int _))⟩
    | _ => exact h1.elim
  · exact h.elim
end

/-! ## loops -/
def forGo (T : Tg) (B : SS) : List D → En → Fd → R
  | [], ρ, φ => .nx ρ φ
  | d :: ds, ρ, φ => match T d ρ with
    | none => .bad
    | some ρ1 => match B ρ1 φ with
      | .nx ρ2 φ2 => forGo T B ds ρ2 φ2
      | .ct ρ2 φ2 => forGo T B ds ρ2 φ2
      | .bk ρ2 φ2 => .nx ρ2 φ2
      | .rt d φ2 => .rt d φ2
      | .ex x l ρ2 φ2 => .ex x l ρ2 φ2
      | .bad => .bad
def sFor (I : SA) (T : Tg) (B : SS) : SS := fun ρ φ => (I ρ φ).toR ρ fun ds φ1 => forGo T B ds ρ φ1
def whGo (C : SB) (B : SS) : Nat → En → Fd → R
  | 0, _, _ => .bad
  | n + 1, ρ, φ => (C ρ φ).toR ρ fun b φ1 => if b = true then (match B ρ φ1 with
      | .nx ρ2 φ2 => whGo C B n ρ2 φ2
      | .ct ρ2 φ2 => whGo C B n ρ2 φ2
      | .bk ρ2 φ2 => .nx ρ2 φ2
      | .rt d φ2 => .rt d φ2
      | .ex x l ρ2 φ2 => .ex x l ρ2 φ2
      | .bad => .bad) else .nx ρ φ1
section
variable {X : Cx} {c : Ct} {m : Md} {W : WX} {ox : List Ms → Prop} {lp own o1 : List Ms} {pos : Pos}
theorem s_for {tg iter : Expr} {body : List Stmt} {is : List Nat} {I : SA} {T : Tg} {B : SS} (hp : PassesOwn (model X.prog X.w) X.A X.env X.xe) (hc : X.calm = true) (hi : IJ X c own false W tg iter I) (hg : TJ X c own o1 is tg T) (hb : SJs X c ⟨m, W, ox, own⟩ o1 own body B)
    (hs : ∀ x, foldedSetIterable iter X.env x = pure x := by intro _; rfl) (ho : ox own := by first | exact trivial | rfl) : SJ X c ⟨m, W, ox, lp⟩ own own (.For tg iter body [] pos) (sFor I T B) := by
  refine PS.weak (ps_for hp hc hi hg hb hs) ?_
  rintro Dn σ H ⟨Z, ρ, φ, R0, h⟩
  refine ⟨Z, ρ, φ, R0, ?_⟩
  unfold sFor at h
  cases hI : I ρ φ with
  | bad => rw [hI] at h; exact h
  | ex y l φ1 => rw [hI] at h; exact fun cls dx Z' H' e w' r => h cls dx σ Z' H' own ho (R0.more e w') r
  | ok ds φ1 =>
    rw [hI] at h
    intro J Z1 H1 e1 w1 wk
    refine ⟨fun i k σn Hn => k = ds.length - i ∧ i ≤ ds.length ∧ ∃ Zn ρn φn, (∀ a o, Z1 a = some o → Zn a = some o) ∧ Rl c own Zn ρn φn σn Hn ∧ PostS c ⟨m, W, ox, lp⟩ own (forGo T B (ds.drop i) ρn φn) Dn Zn,
      ⟨ds.length, by simp, Nat.zero_le _, Z1, ρ, φ1, fun _ _ e => e, R0.more e1 w1, PostS.shift h e1.z⟩, ?_⟩
    rintro i k σn Hn ⟨rfl, hi, Zn, ρn, φn, kz, Rn, hP⟩
    obtain ⟨wk1, wk2⟩ := wk i Zn Hn φn ⟨kz, fun e => absurd e (by decide), Rn.ext.h⟩ Rn.wf
    by_cases hlt : i < ds.length
    · obtain ⟨d, hd⟩ : ∃ d, ds[i]? = some d := ⟨_, List.getElem?_eq_getElem hlt⟩
      obtain ⟨go, step⟩ := wk2 d hd
      rw [List.drop_eq_getElem_cons hlt] at hP
      have hdd : ds[i] = d := by
        rw [List.getElem?_eq_getElem hlt] at hd
        exact Option.some.inj hd
      rw [hdd] at hP
      refine .inr ⟨go, fun σ' H' => ∃ k', k' < ds.length - i ∧ (k' = ds.length - (i + 1) ∧ i + 1 ≤ ds.length ∧ ∃ Zn ρn φn, (∀ a o, Z1 a = some o → Zn a = some o) ∧ Rl c own Zn ρn φn σ' H' ∧ PostS c ⟨m, W, ox, lp⟩ own (forGo T B (ds.drop (i + 1)) ρn φn) Dn Zn), fun _ _ q => q, fun x Hx hx => ?_⟩
      obtain ⟨Zx, ex, wx, rx⟩ := step x Hx hx
      unfold forGo at hP
      cases hT : T d ρn with
      | none => rw [hT] at hP; exact hP.elim
      | some ρ1 =>
        rw [hT] at hP
        refine ⟨Zx, ρn, φn, d, ρ1, Rn.more ex wx, rx, hT, fun σ2 tr _ => ⟨Zx, ρ1, φn, tr Zx Hx φn Sub.refl (Rn.more ex wx), ?_⟩⟩
        have kzx : Sub Z1 Zx := Sub.trans kz ex.z
        have hP' : PostS c ⟨m, W, ox, lp⟩ own (match B ρ1 φn with
          | .nx ρ2 φ2 => forGo T B (ds.drop (i + 1)) ρ2 φ2
          | .ct ρ2 φ2 => forGo T B (ds.drop (i + 1)) ρ2 φ2
          | .bk ρ2 φ2 => .nx ρ2 φ2
          | .rt d φ2 => .rt d φ2
          | .ex x l ρ2 φ2 => .ex x l ρ2 φ2
          | .bad => .bad) Dn Zx := PostS.shift hP ex.z
        cases hB : B ρ1 φn with
        | nx ρ2 φ2 =>
          rw [hB] at hP'
          exact fun σ3 Z3 H3 k3 R3 => ⟨_, by omega, rfl, hlt, Z3, ρ2, φ2, kzx.trans k3, R3, hP'.shift k3⟩
        | ct ρ2 φ2 =>
          rw [hB] at hP'
          exact fun σ3 Z3 H3 k3 R3 => ⟨_, by omega, rfl, hlt, Z3, ρ2, φ2, kzx.trans k3, R3, hP'.shift k3⟩
        | bk ρ2 φ2 => rw [hB] at hP'; exact hP'
        | rt d φ2 => rw [hB] at hP'; exact hP'
        | ex x l ρ2 φ2 => rw [hB] at hP'; exact hP'
        | bad => rw [hB] at hP'; exact hP'
    · have hie : i = ds.length := by omega
      refine .inl ⟨wk1 hie, ?_⟩
      rw [hie, List.drop_length] at hP
      exact hP σn Zn Hn Sub.refl Rn
theorem s_while (n : Nat) {t : Expr} {body : List Stmt} {C : SB} {B : SS} (hp : PassesOwn (model X.prog X.w) X.A X.env X.xe) (ht : BX X c own W t C) (hb : SJs X c ⟨m, W, ox, own⟩ own own body B) (ho : ox own := by first | exact trivial | rfl) : SJ X c ⟨m, W, ox, lp⟩ own own (.While t body [] pos) (whGo C B n) := by
  refine PS.weak (ps_while hp ht hb) ?_
  rintro Dn σ H ⟨Z, ρ, φ, R0, h⟩
  refine ⟨fun k σn Hn => ∃ Zn ρn φn, Rl c own Zn ρn φn σn Hn ∧ PostS c ⟨m, W, ox, lp⟩ own (whGo C B k ρn φn) Dn Zn, ⟨n, Z, ρ, φ, R0, h⟩, ?_⟩
  rintro k σn Hn ⟨Zn, ρn, φn, Rn, hP⟩
  refine ⟨Zn, ρn, φn, Rn, ?_⟩
  cases k with
  | zero => exact hP.elim
  | succ k =>
    refine PostB.toS (w := ⟨m, W, ox, lp⟩) ho Rn hP fun b φ1 Z1 H1 e1 w1 h1 => ?_
    cases b with
    | false => exact h1 σn Z1 H1 Sub.refl (Rn.more e1 w1)
    | true =>
      rw [if_pos rfl]
      refine ⟨fun σ' H' => ∃ k', k' < k + 1 ∧ ∃ Zn ρn φn, Rl c own Zn ρn φn σ' H' ∧ PostS c ⟨m, W, ox, lp⟩ own (whGo C B k' ρn φn) Dn Zn, fun _ _ q => q, Z1, ρn, φ1, Rn.more e1 w1, ?_⟩
      have h1' : PostS c ⟨m, W, ox, lp⟩ own (match B ρn φ1 with
          | .nx ρ2 φ2 => whGo C B k ρ2 φ2
          | .ct ρ2 φ2 => whGo C B k ρ2 φ2
          | .bk ρ2 φ2 => .nx ρ2 φ2
          | .rt d φ2 => .rt d φ2
          | .ex x l ρ2 φ2 => .ex x l ρ2 φ2
          | .bad => .bad) Dn Z1 := h1
      cases hB : B ρn φ1 with
      | nx ρ2 φ2 =>
        rw [hB] at h1'
        exact fun σ3 Z3 H3 k3 R3 => ⟨k, Nat.lt_succ_self _, Z3, ρ2, φ2, R3, h1'.shift k3⟩
      | ct ρ2 φ2 =>
        rw [hB] at h1'
        exact fun σ3 Z3 H3 k3 R3 => ⟨k, Nat.lt_succ_self _, Z3, ρ2, φ2, R3, h1'.shift k3⟩
      | bk ρ2 φ2 => rw [hB] at h1'; exact h1'
      | rt d φ2 => rw [hB] at h1'; exact h1'
      | ex x l ρ2 φ2 => rw [hB] at h1'; exact h1'
      | bad => rw [hB] at h1'; exact h1'
end
end Pf

set_option Elab.async false
set_option linter.all false
set_option maxRecDepth 100000
set_option maxHeartbeats 4000000
namespace Pf
open PySem PySem.Spec PyProof.Rows L2

/-! ## a def by its body -/
/-- what a def with this body does: n parameters, s names -/
def runB (B : SS) (n s : Nat) : Fn := fun ds φ => match B (ds.map some ++ List.replicate (s - n) none) φ with
  | .nx _ φ' => .ok .non φ'
  | .rt d φ' => .ok d φ'
  | .ex x l _ φ' => .ex x l φ'
  | _ => .bad
theorem args_start {K : PySem.W.Frag} {f : Addr} {Z H : Hp} {pm : List Bool} {vs : List V} {ds : List D} {r : Nat} (rs : RArgs K f Z H pm vs ds) {i : Nat} {d : D} (h : (ds.map some ++ List.replicate r none)[i]? = some (some d)) :
    ∃ b v, pm[i]? = some b ∧ (vs.map some ++ List.replicate r none)[i]? = some (some v) ∧ Res (Wm b) K f H Z H v d := by
  obtain ⟨hl1, hl2⟩ := rs.lens
  by_cases hi : i < ds.length
  · rw [List.getElem?_append_left (by simpa using hi), List.getElem?_map] at h
    cases e : ds[i]? with
    | none => rw [e] at h; cases h
    | some x =>
      rw [e] at h
      cases h
      obtain ⟨b, y, h0, h1, h2⟩ := rs.at_ e
      refine ⟨b, y, h0, ?_, h2⟩
      rw [List.getElem?_append_left (by rw [List.length_map]; omega), List.getElem?_map, h1] <;> rfl
  · rw [List.getElem?_append_right (by simpa using hi), List.getElem?_replicate] at h
    split at h <;> cases h
/-- how the slots stand at the start -/
def ownS (pm : List Bool) (n : Nat) : List Ms := pm.map (fun b => if b = true then Ms.p else .s) ++ List.replicate (n - pm.length) .s
theorem ownS_get {pm : List Bool} {n i : Nat} {x : Ms} (h : (ownS pm n)[i]? = some x) : (∃ b, pm[i]? = some b ∧ x = if b = true then Ms.p else .s) ∨ (pm.length ≤ i ∧ x = .s) := by
  unfold ownS at h
  by_cases hi : i < pm.length
  · rw [List.getElem?_append_left (by simpa using hi), List.getElem?_map] at h
    cases e : pm[i]? with
    | none => rw [e] at h; cases h
    | some b => rw [e] at h; cases h; exact .inl ⟨b, rfl, rfl⟩
  · rw [List.getElem?_append_right (by simpa using hi), List.getElem?_replicate] at h
    split at h
    · cases h; exact .inr ⟨by omega, rfl⟩
    · cases h
theorem rep_s {n i : Nat} {x : Ms} (hx : x ≠ .s) : (List.replicate n Ms.s)[i]? ≠ some x := by
  rw [List.getElem?_replicate]
  split
  · intro h; exact hx (Option.some.inj h).symm
  · intro h; cases h
theorem ownS_no {pm : List Bool} {n i : Nat} : (ownS pm n)[i]? ≠ some .o := by
  intro h
  rcases ownS_get h with ⟨b, _, e⟩ | ⟨_, e⟩
  · cases b <;> cases e
  · cases e
section
variable {P : Program} {w : World} {K : PySem.W.Frag} {mg : Str → Option Value} {base : Heap}
theorem fn_sem {cls : Str → Option (Addr × List Str)} {x qual : Str} {st : Stmt} {f : Addr} {fd : FuncData} {N ps : List Str} {k : Nat} (F : Fun K x qual st f fd) (S : FnScope N ps (defScope st)) (pm : List Bool) (hpm : pm.length = ps.length) (m : Md) (B : SS) {on : List Ms}
    (D : ∀ (cdv : Value) (A : Around) (outer : List Env) (s : Shared) (H : Hp) (E : XK) (cf : Addr) (cZ cH : Hp) (s0 : L2.St) (r0 : En), Room k (A.deeper (envOfC qual (defScope st) s.heap.objs.size f cdv)) →
      SJs (cxOf (L2.CX P w) P w K mg base N qual (defScope st) f cdv A outer s H E) ⟨K, cf, cZ, cH, cls, s0, r0⟩ ⟨m, fun cls d _ H => E cls d H, fun _ => True, []⟩ (ownS pm N.length) on (defBody st) B) :
    FnOk P w K mg base (L2.CX P w) (k + 1) f fd ps (spF cls K pm m (runB B ps.length N.length)) := by
  refine F.okX S (fun vs H Q E h => ?_) (fun cdv A outer s H vs Q E hr h => ?_)
  · obtain ⟨f, Z, ds, φ, _, rs, _⟩ := h
    rw [rs.lens.1, hpm]
  · obtain ⟨f, Z, ds, φ, wf, rs, h⟩ := h
    have hl : ds.length = ps.length := by rw [rs.lens.2, hpm]
    have hv : vs.length = ps.length := by rw [rs.lens.1, hpm]
    have hst : L2.start N vs = vs.map some ++ List.replicate (N.length - ps.length) none := by
      unfold L2.start
      rw [hv]
    refine ⟨_, D cdv A outer s H E f Z H (L2.start N vs) (ds.map some ++ List.replicate (N.length - ps.length) none) hr, Z, ds.map some ++ List.replicate (N.length - ps.length) none, φ, ⟨wf, Ext.refl, ?_, fun i d h1 _ h3 => ?_, fun i d _ h2 => absurd h2 ownS_no, fun i j a d e _ h1 => absurd h1 ownS_no, fun i d h1 h2 => ⟨h1, rfl⟩, fun i d h1 h2 => ?_⟩, ?_⟩
    · rw [hst]
      simp only [List.length_append, List.length_map, List.length_replicate]
      rw [hv, hl]
    · rw [hst]
      obtain ⟨b, v, e1, e2, r⟩ := args_start rs h1
      refine ⟨v, e2, ?_⟩
      cases b with
      | false => exact r
      | true =>
        refine absurd ?_ h3
        unfold ownS
        rw [List.getElem?_append_left (by rw [List.length_map]; exact (List.getElem?_eq_some_iff.mp e1).1), List.getElem?_map, e1]
        rfl
    · rw [hst]
      obtain ⟨b, v, e1, e2, r⟩ := args_start rs h1
      refine ⟨v, e2, ?_⟩
      cases b with
      | false => exact .inl r
      | true => exact r
    · unfold runB at h
      cases e : B (ds.map some ++ List.replicate (N.length - ps.length) none) φ with
      | nx ρ φ' => rw [e] at h; exact fun σ Z' H' _ R0 => h .non Z' H' R0.ext R0.wf (Res.of_flat .non rfl)
      | rt d φ' => rw [e] at h; exact fun v Z' H' e' w' r => h v Z' H' e' w' r
      | ex y l ρ φ' => rw [e] at h; exact fun cl dx σ Z' H' ow _ R0 r => h cl dx Z' H' R0.ext R0.wf r
      | bk ρ φ' => rw [e] at h; exact h.elim
      | ct ρ φ' => rw [e] at h; exact h.elim
      | bad => rw [e] at h; exact h.elim
theorem cal_of {cls : Str → Option (Addr × List Str)} {x : Str} {k : Nat} {pm : List Bool} {m : Md} {F : Fn} {f : Addr} {fd : FuncData} {ps : List Str} (h1 : mg x = some (.ref f)) (h2 : PySem.W.keepIn K (.ref f) = true) (h3 : Binds K fd ps []) (h4 : FnOk P w K mg base (L2.CX P w) k f fd ps (spF cls K pm m F)) :
    Cal P w K mg base cls x k pm m F := ⟨⟨f, fd, ps, h1, h2, h3, h4⟩⟩
end

/-- a statement's reading where what is fixed is chosen later -/
theorem PSs.later {X : Cx} {sts : List Stmt} {ι : Type} {t : ι → TS} (h : ∀ i, PSs X sts (t i)) : PSs X sts (fun D σ H => ∃ i, t i D σ H) := ⟨fun pins s σ H D I ⟨i, q⟩ => (h i).run pins s σ H D I q⟩

/-! ## the feed -/
def Fd.step (φ : Fd) : Fd :=
  if φ.told = 0 ∧ φ.pos < φ.cells.length then
    let cell : Int := ((φ.cells.getD φ.pos.toNat 0).natAbs : Nat)
    if cell ≥ 1000000000000000000 then { φ with pos := φ.pos + 1, told := cell }
    else { φ with pos := φ.pos + 1, st := (φ.st * 48271 + cell * 69621 + (φ.pos + 1)) % 2147483647 }
  else φ
/-- a drawn number, and the feed behind it -/
def Fd.draw (φ : Fd) (many : Int) : Int × Fd :=
  let ψ := φ.step
  if ψ.told > 0 then (ψ.told % many, { ψ with told := ψ.told / many })
  else
    let s : Int := (ψ.st * 16807 + 12345) % 2147483647
    ((s * s + s) % 2147483629 / 11 % many, { ψ with st := s })
def drawF : Fn := fun ds φ => match ds with
  | [.feed, .int m] => if 0 < m ∧ m < 1073741824 then .ok (.int (φ.draw m).1) (φ.draw m).2 else .bad
  | _ => .bad
theorem Fd.step_ok {φ : Fd} (h : φ.Ok) : φ.step.Ok := by
  obtain ⟨n, a0, a1, t0, s0, s1⟩ := h
  unfold Fd.step
  split
  · rename_i hc
    dsimp only
    split
    · exact ⟨n, by show 0 ≤ φ.pos + 1; omega, by show φ.pos + 1 ≤ (φ.cells.length : Int); omega, by show (0 : Int) ≤ ((φ.cells.getD φ.pos.toNat 0).natAbs : Nat); omega, s0, s1⟩
    · exact ⟨n, by show 0 ≤ φ.pos + 1; omega, by show φ.pos + 1 ≤ (φ.cells.length : Int); omega, t0, Int.emod_nonneg _ (by decide), Int.emod_lt_of_pos _ (by decide)⟩
  · exact ⟨n, a0, a1, t0, s0, s1⟩
theorem Fd.draw_ok {φ : Fd} (h : φ.Ok) {m : Int} (hm : 0 < m) : (φ.draw m).2.Ok := by
  obtain ⟨n, a0, a1, t0, s0, s1⟩ := Fd.step_ok h
  unfold Fd.draw
  dsimp only
  split
  · exact ⟨n, a0, a1, Int.ediv_nonneg t0 (Int.le_of_lt hm), s0, s1⟩
  · exact ⟨n, a0, a1, t0, Int.emod_nonneg _ (by decide), Int.emod_lt_of_pos _ (by decide)⟩
theorem Fd.draw_range (φ : Fd) {m : Int} (hm : 0 < m) : 0 ≤ (φ.draw m).1 ∧ (φ.draw m).1 < m := by
  unfold Fd.draw
  dsimp only
  split
  · exact ⟨Int.emod_nonneg _ (by omega), Int.emod_lt_of_pos _ hm⟩
  · exact ⟨Int.emod_nonneg _ (by omega), Int.emod_lt_of_pos _ hm⟩
/-! ## the law's own def -/
def spFeed (K : PySem.W.Frag) : Sp := fun vs H Q _ => ∃ (a : Addr) (ns : List Int), vs = [.ref a] ∧ SqL K H a (ns.map V.int) ∧
  ∀ s p, H s = none → H p = none → p ≠ s → Q (.ref p) (upd (upd H s (.lst (ns.map V.int))) p (.lst [.ref s, .int 0, .int 0, .int 1]))
def spLaw (K : PySem.W.Frag) : Sp := fun vs H Q _ => ∃ (a : Addr) (ns : List Int), vs = [.ref a] ∧ SqL K H a (ns.map V.int) ∧ ns.length ≤ 63 ∧ ∀ H', Q (.bl true) H'
section
variable {P : Program} {w : World} {K : PySem.W.Frag} {mg : Str → Option Value} {base : Heap}
/-- the law's body behind its first row, feed = _law_feed(script): j is feed's slot -/
theorem law_sem {cls : Str → Option (Addr × List Str)} {qual x : Str} {st st0 : Stmt} {rest : List Stmt} {f : Addr} {fd : FuncData} {N : List Str} {k j : Nat} (F : Fun K x qual st f fd) (S : FnScope N ["script"] (defScope st)) (m : Md) (B : SS) {on : List Ms}
    (hb : defBody st = st0 :: rest) (hj : 0 < j) (hjn : j < N.length)
    (D0 : ∀ (cdv : Value) (A : Around) (outer : List Env) (s : Shared) (H : Hp) (E : XK), Room k (A.deeper (envOfC qual (defScope st) s.heap.objs.size f cdv)) →
      PS (cxOf (L2.CX P w) P w K mg base N qual (defScope st) f cdv A outer s H E) st0 (tAsg (tCall (spFeed K) [] E0 (tCons (tVar 0) tNil)) (gName j)))
    (D : ∀ (cdv : Value) (A : Around) (outer : List Env) (s : Shared) (H : Hp) (E : XK) (cf : Addr) (cZ cH : Hp) (s0 : L2.St) (r0 : En), Room k (A.deeper (envOfC qual (defScope st) s.heap.objs.size f cdv)) →
      SJs (cxOf (L2.CX P w) P w K mg base N qual (defScope st) f cdv A outer s H E) ⟨K, cf, cZ, cH, cls, s0, r0⟩ ⟨m, fun cls d _ H => E cls d H, fun _ => True, []⟩ (List.replicate N.length .s) on rest B)
    (hB : ∀ φ : Fd, φ.Ok → ∃ φ', B ((List.replicate N.length none).set j (some .feed)) φ = .rt (.bl true) φ') :
    FnOk P w K mg base (L2.CX P w) (k + 1) f fd ["script"] (spLaw K) := by
  refine F.okX S (fun vs H Q E h => ?_) (fun cdv A outer s H vs Q E hr h => ?_)
  · obtain ⟨a, ns, rfl, _⟩ := h
    rfl
  · obtain ⟨a, ns, rfl, hs, hl, q⟩ := h
    have D1 := PSs.later (ι := Addr × Hp × Hp) fun i => D cdv A outer s H E i.1 i.2.1 i.2.2 [] [] hr
    refine ⟨_, by rw [hb]; exact pss_cons (D0 cdv A outer s H E hr) D1, ?_⟩
    have h0 : (L2.start N [V.ref a])[0]? = some (some (.ref a)) := rfl
    refine ⟨.ref a, h0, a, ns, rfl, hs, fun t p ht hp hne => ?_⟩
    have hpt : (upd (upd H t (.lst (ns.map V.int))) p (.lst [.ref t, .int 0, .int 0, .int 1])) p = some (.lst [.ref t, .int 0, .int 0, .int 1]) := upd_same
    have htt : (upd (upd H t (.lst (ns.map V.int))) p (.lst [.ref t, .int 0, .int 0, .int 1])) t = some (.lst (ns.map V.int)) := by
      rw [upd_ne (Ne.symm hne)]
      exact upd_same
    generalize upd (upd H t (.lst (ns.map V.int))) p (.lst [.ref t, .int 0, .int 0, .int 1]) = H1 at hpt htt
    have ok0 : Fd.Ok ⟨ns, 0, 0, 1⟩ := ⟨hl, Int.le_refl _, Int.natCast_nonneg _, Int.le_refl _, by show (0 : Int) ≤ 1; decide, by show (1 : Int) < 2147483647; decide⟩
    have wf : Wf K p (fun b => if b = t then some (.lst (ns.map V.int)) else none) H1 ⟨ns, 0, 0, 1⟩ := by
      refine ⟨fun b o e => ?_, if_neg hne, ⟨t, if_pos rfl, hpt⟩, ok0⟩
      by_cases hb : b = t
      · rw [if_pos hb] at e; cases e; rw [hb]; exact htt
      · rw [if_neg hb] at e; cases e
    obtain ⟨φ', hφ⟩ := hB ⟨ns, 0, 0, 1⟩ ok0
    refine ⟨(p, (fun b => if b = t then some (.lst (ns.map V.int)) else none), H1), (fun b => if b = t then some (.lst (ns.map V.int)) else none), (List.replicate N.length (none : Option Pf.D)).set j (some .feed), ⟨ns, 0, 0, 1⟩, ⟨wf, Ext.refl, ?_, fun i d h1 _ _ => ?_, fun i d _ h2 => absurd h2 (rep_s (by decide)), fun i j a d e _ h1 => absurd h1 (rep_s (by decide)), fun i d _ h2 => ?_, fun i d _ h2 => absurd h2 (rep_s (by decide))⟩, ?_⟩
    · unfold L2.start
      simp only [List.length_set, List.length_append, List.length_map, List.length_replicate, List.length_cons, List.length_nil]
      omega
    · rcases get_set h1 with ⟨rfl, e⟩ | ⟨hi, e⟩
      · cases e
        refine ⟨.ref p, List.getElem?_set_self ?_, .feed⟩
        unfold L2.start
        simp only [List.length_append, List.length_map, List.length_replicate, List.length_cons, List.length_nil]
        omega
      · rw [List.getElem?_replicate] at e
        split at e <;> cases e
    · rcases h2 with h2 | h2
      · exact absurd h2 (rep_s (by decide))
      · exact absurd h2 (rep_s (by decide))
    · rw [hφ]
      intro v Z' H' _ _ r
      have hv : v = .bl true := Res.bl r
      rw [hv]
      exact q H'
end
section
variable {X : Cx}
/-- xs[i] by values, as a += reads it -/
theorem get_lst : PGet X (fun o i H Q => ∃ p xs k v, o = .ref p ∧ i = .int k ∧ 0 ≤ k ∧ k < 2 ^ 63 ∧ SqL X.K H p xs ∧ xs[k.toNat]? = some v ∧ Q v H) := by
  intro pins s σ H o i ov iv Q I r1 r2 h
  obtain ⟨p, xs, k, v, rfl, rfl, h0, h1, hq, he, q⟩ := h
  cases r1
  obtain ⟨t, rfl⟩ := r2
  obtain ⟨its, r, pl, hz⟩ := I.list hq
  obtain ⟨u, eu, ru⟩ := r.get he
  exact wpAny_getItem_list pl.isList h0 h1 (by simpa using eu) ⟨v, H, I, ru, q⟩
end
end Pf

set_option Elab.async false
set_option linter.all false
set_option maxRecDepth 100000
set_option maxHeartbeats 4000000
namespace Pf
open PySem PySem.Spec PyProof.Rows L2

/-! ## drawing from the feed: the body of the law's own draw, read once -/
def ixf (K : PySem.W.Frag) (k : Int) : TE := tOp (rIxL K) (tVar 0) (tC (V.int k))
def rgI : R2 := rI0 fun i j => V.int (i + j)
def rmI : R2 := rI CMul fun i j => V.int (i * j)
def reI : R2 := rI (fun _ j => 0 < j) fun i j => V.int (i % j)
def rdI : R2 := rI CDiv fun i j => V.int (i / j)
def rIntC : List V → Hp → VK → Prop := fun xs H Q => (∃ i, xs = [V.int i] ∧ Q (V.int i) H) ∨ ∃ k, xs = [V.bl k] ∧ Q (V.int (if k = true then 1 else 0)) H
def tInt (t : TE) : TE := tCB rIntC (tCons t tNil)
def rGet (K : PySem.W.Frag) : V → V → Hp → VK → Prop := fun o i H Q => ∃ p xs k v, o = .ref p ∧ i = .int k ∧ 0 ≤ k ∧ k < 2 ^ 63 ∧ SqL K H p xs ∧ xs[k.toNat]? = some v ∧ Q v H
def tDrawA (K : PySem.W.Frag) : TS := tIfS (tAnd (tTest (tOp rEq (ixf K 2) (tC (.int 0)))) (tTest (tOp (rI0 fun i j => V.bl (decide (i < j))) (ixf K 1) (tCB (fun xs H Q => ∃ p ys, xs = [.ref p] ∧ (SqL K H p ys ∨ SqT K H p ys) ∧ Q (.int ys.length) H) (tCons (ixf K 0) tNil)))))
  (tSeq (tAsg (tCB (fun xs H Q => ∃ i, xs = [.int i] ∧ Q (.int (if i < 0 then -i else i)) H) (tCons (tInt (tOp (rIxL K) (ixf K 0) (ixf K 1))) tNil)) (gName 2))
    (tSeq (tAugS (tVar 0) (tC (.int 1)) (tC (.int 1)) (rGet K) (ipI fun i j => i + j) rSetL)
      (tIfS (tTest (tOp (rI0 fun i j => V.bl (decide (j ≤ i))) (tVar 2) (tOp (rI CPow fun i j => V.int (i ^ j.toNat)) (tC (.int 10)) (tC (.int 18)))))
        (tAsg (tVar 2) (L2.gSub (tVar 0) (tC (.int 2)) rSetL))
        (tAsg (tOp reI (tInt (tOp rgI (tOp rgI (tOp rmI (ixf K 3) (tC (.int 48271))) (tOp rmI (tVar 2) (tC (.int 69621)))) (ixf K 1))) (tC (.int 2147483647))) (L2.gSub (tVar 0) (tC (.int 3)) rSetL)))))
  tNext
def tDrawB (K : PySem.W.Frag) : TS := tSeq (tIfS (tTest (tOp (rI0 fun i j => V.bl (decide (j < i))) (ixf K 2) (tC (.int 0))))
    (tSeq (tAsg (tOp reI (tInt (ixf K 2)) (tVar 1)) (gName 3)) (tSeq (tAsg (tOp rdI (ixf K 2) (tVar 1)) (L2.gSub (tVar 0) (tC (.int 2)) rSetL)) (tRet (tVar 3)))) tNext)
  (tSeq (tAsg (tOp reI (tInt (tOp rgI (tOp rmI (ixf K 3) (tC (.int 16807))) (tC (.int 12345)))) (tC (.int 2147483647))) (L2.gSub (tVar 0) (tC (.int 3)) rSetL))
    (tSeq (tAsg (tOp reI (tInt (tOp rgI (tOp rmI (ixf K 3) (ixf K 3)) (ixf K 3))) (tC (.int 2147483629))) (gName 4))
      (tRet (tOp reI (tOp rdI (tVar 4) (tC (.int 11))) (tVar 1)))))
section
variable {K : PySem.W.Frag} {f s : Addr} {σ : L2.St} {H : Hp} {xs : List V} {Q : VK}
theorem ixr {k : Nat} {v : V} (h0 : σ[0]? = some (some (.ref f))) (hf : H f = some (.lst xs)) (hx : xs[k]? = some v) (q : Q v H) : ixf K (k : Int) σ H Q :=
  ⟨_, h0, f, xs, k, v, rfl, rfl, SqL.of hf, atI_nat hx, q⟩
theorem tInt_of {t : TE} {i : Int} (h : t σ H fun v H' => v = .int i ∧ Q (.int i) H') (mono : ∀ Q Q' : VK, (∀ v H, Q v H → Q' v H) → t σ H Q → t σ H Q') : tInt t σ H Q :=
  mono _ _ (fun v H' ⟨e, q⟩ => .inl ⟨i, by rw [e], q⟩) h
theorem ifT {b : Bool} {A B : Prop} (hb : b = true) (h : A) : if b = true then A else B := by
  rw [if_pos hb]
  exact h
theorem ifF {b : Bool} {A B : Prop} (hb : b = false) (h : B) : if b = true then A else B := by
  rw [if_neg (by rw [hb]; decide)]
  exact h
/-- the feed's cell as the record has it -/
abbrev fdL (s : Addr) (φ : Fd) : List V := [.ref s, .int φ.pos, .int φ.told, .int φ.st]
theorem pow18 : (10 : Int) ^ (18 : Int).toNat = 1000000000000000000 := by decide
/-- the first half: a cell of the script comes in -/
theorem drawA_read {φ : Fd} {m : Int} {D : Ends} (ok : φ.Ok) (hs : H s = some (.lst (φ.cells.map V.int))) (hf : H f = some (.lst (fdL s φ))) (hsf : s ≠ f)
    (q : ∀ y, D.nx [some (.ref f), some (.int m), y, none, none] (upd H f (.lst (fdL s φ.step)))) : tDrawA K D [some (.ref f), some (.int m), none, none, none] H := by
  obtain ⟨n, a0, a1, t0, s0, s1⟩ := ok
  have hself : upd H f (.lst (fdL s φ)) = H := by
    funext b
    by_cases hb : b = f
    · rw [hb, upd_same, hf]
    · rw [upd_ne hb]
  show ixf K 2 _ _ _
  refine ixr (k := 2) rfl hf rfl ⟨rfl, ?_⟩
  refine ⟨_, rfl, ?_⟩
  by_cases ht : φ.told = 0
  · refine ifT (by rw [ht]; decide) ?_
    refine ixr (k := 1) rfl hf rfl (ixr (k := 0) rfl hf rfl ⟨s, _, rfl, .inl (SqL.of hs), _, _, rfl, rfl, _, rfl, ?_⟩)
    rw [List.length_map]
    by_cases hp : φ.pos < φ.cells.length
    · refine ifT (decide_eq_true hp) ?_
      obtain ⟨j, hj⟩ : ∃ j : Nat, φ.pos = j := ⟨φ.pos.toNat, by omega⟩
      have hjl : j < φ.cells.length := by omega
      have hget : φ.cells.getD φ.pos.toNat 0 = φ.cells[j] := by
        rw [hj, Int.toNat_natCast, List.getD_eq_getElem?_getD, List.getElem?_eq_getElem hjl] <;> rfl
      have hst : φ.step = if ((φ.cells[j].natAbs : Nat) : Int) ≥ 1000000000000000000 then { φ with pos := φ.pos + 1, told := ((φ.cells[j].natAbs : Nat) : Int) } else { φ with pos := φ.pos + 1, st := (φ.st * 48271 + ((φ.cells[j].natAbs : Nat) : Int) * 69621 + (φ.pos + 1)) % 2147483647 } := by
        unfold Fd.step
        rw [if_pos ⟨ht, hp⟩]
        dsimp only
        rw [hget]
      have habs : (if φ.cells[j] < 0 then -φ.cells[j] else φ.cells[j]) = ((φ.cells[j].natAbs : Nat) : Int) := by split <;> omega
      refine ixr (k := 0) rfl hf rfl (ixr (k := 1) rfl hf rfl ⟨s, _, φ.pos, .int φ.cells[j], rfl, rfl, SqL.of hs, ?_, .inl ⟨_, rfl, ⟨_, rfl, ?_⟩⟩⟩)
      · rw [hj]
        exact atI_nat (by rw [List.getElem?_map, List.getElem?_eq_getElem hjl] <;> rfl)
      · rw [habs]
        generalize ((φ.cells[j].natAbs : Nat) : Int) = cell at hst
        -- feed[1] += 1
        refine ⟨.ref f, rfl, f, _, 1, .int φ.pos, rfl, rfl, by decide, by decide, SqL.of hf, rfl, _, _, rfl, rfl, f, fdL s φ, 1, 1, rfl, rfl, hf, rfl, ?_⟩
        have hf1 : upd H f (.lst ((fdL s φ).set 1 (.int (φ.pos + 1)))) f = some (.lst [.ref s, .int (φ.pos + 1), .int φ.told, .int φ.st]) := upd_same
        refine ⟨.int cell, rfl, _, _, rfl, rfl, ⟨by decide, by decide, by decide⟩, _, _, rfl, rfl, _, rfl, ?_⟩
        rw [pow18]
        by_cases hc : (1000000000000000000 : Int) ≤ cell
        · refine ifT (decide_eq_true hc) ?_
          rw [if_pos hc] at hst
          refine ⟨.int cell, rfl, .ref f, rfl, f, _, 2, 2, rfl, rfl, hf1, rfl, ?_⟩
          rw [upd_upd]
          have := q (some (.int cell))
          rw [hst] at this
          exact this
        · refine ifF (decide_eq_false hc) ?_
          rw [if_neg hc] at hst
          refine ixr (k := 3) rfl hf1 rfl ⟨_, _, rfl, rfl, .inl (by omega), .int cell, rfl, _, _, rfl, rfl, .inr (by omega), _, _, rfl, rfl, ?_⟩
          refine ixr (k := 1) rfl hf1 rfl ⟨_, _, rfl, rfl, .inl ⟨_, rfl, _, _, rfl, rfl, (by decide : (0 : Int) < 2147483647), ?_⟩⟩
          refine ⟨.ref f, rfl, f, _, 3, 3, rfl, rfl, hf1, rfl, ?_⟩
          rw [upd_upd]
          have := q (some (.int cell))
          rw [hst] at this
          exact this
    · refine ifF (decide_eq_false hp) ?_
      have hst : φ.step = φ := by unfold Fd.step; rw [if_neg fun h => hp h.2]
      have := q none
      rw [hst, hself] at this
      exact this
  · have e : decide (V.int φ.told = V.int 0) = false := decide_eq_false fun h => ht (V.int.inj h)
    refine ifF e ?_
    have hst : φ.step = φ := by unfold Fd.step; rw [if_neg fun h => ht h.1]
    have := q none
    rw [hst, hself] at this
    exact this
/-- the second half: a number is drawn -/
theorem drawB_read {φ : Fd} {m : Int} {D : Ends} {y : Option V} (ok : φ.Ok) (hm : 0 < m) (hm2 : m < 1073741824) (hf : H f = some (.lst (fdL s φ)))
    (q : D.rt (.int (if φ.told > 0 then φ.told % m else ((φ.st * 16807 + 12345) % 2147483647 * ((φ.st * 16807 + 12345) % 2147483647) + (φ.st * 16807 + 12345) % 2147483647) % 2147483629 / 11 % m))
      (upd H f (.lst (fdL s (if φ.told > 0 then { φ with told := φ.told / m } else { φ with st := (φ.st * 16807 + 12345) % 2147483647 }))))) : tDrawB K D [some (.ref f), some (.int m), y, none, none] H := by
  obtain ⟨n, a0, a1, t0, s0, s1⟩ := ok
  show ixf K 2 _ _ _
  refine ixr (k := 2) rfl hf rfl ⟨_, _, rfl, rfl, _, rfl, ?_⟩
  by_cases ht : φ.told > 0
  · refine ifT (decide_eq_true ht) ?_
    rw [if_pos ht, if_pos ht] at q
    refine ixr (k := 2) rfl hf rfl (.inl ⟨_, rfl, .int m, rfl, _, _, rfl, rfl, hm, ?_⟩)
    refine ixr (k := 2) rfl hf rfl ⟨.int m, rfl, _, _, rfl, rfl, ⟨hm, hm2⟩, .ref f, rfl, f, _, 2, 2, rfl, rfl, hf, rfl, _, rfl, q⟩
  · refine ifF (decide_eq_false ht) ?_
    rw [if_neg ht, if_neg ht] at q
    refine ixr (k := 3) rfl hf rfl ⟨_, _, rfl, rfl, .inl (by omega), _, _, rfl, rfl, .inl ⟨_, rfl, _, _, rfl, rfl, (by decide : (0 : Int) < 2147483647), ?_⟩⟩
    have b0 : 0 ≤ (φ.st * 16807 + 12345) % 2147483647 := Int.emod_nonneg _ (by decide)
    have b1 : (φ.st * 16807 + 12345) % 2147483647 < 2147483647 := Int.emod_lt_of_pos _ (by decide)
    refine ⟨.ref f, rfl, f, _, 3, 3, rfl, rfl, hf, rfl, ?_⟩
    have hf1 : upd H f (.lst ((fdL s φ).set 3 (.int ((φ.st * 16807 + 12345) % 2147483647)))) f = some (.lst [.ref s, .int φ.pos, .int φ.told, .int ((φ.st * 16807 + 12345) % 2147483647)]) := upd_same
    refine ixr (k := 3) rfl hf1 rfl (ixr (k := 3) rfl hf1 rfl ⟨_, _, rfl, rfl, .inl (by omega), ?_⟩)
    refine ixr (k := 3) rfl hf1 rfl ⟨_, _, rfl, rfl, .inl ⟨_, rfl, _, _, rfl, rfl, (by decide : (0 : Int) < 2147483629), ?_⟩⟩
    exact ⟨_, rfl, _, _, rfl, rfl, ⟨by decide, by decide⟩, .int m, rfl, _, _, rfl, rfl, hm, q⟩
/-- the whole body keeps the promise -/
theorem draw_read {cls : Str → Option (Addr × List Str)} {N : List Str} {vs : List V} {E : XK} (hN : N.length = 5) (h : spF cls K [false, false] .s drawF vs H Q E) : tSeq (tDrawA K) (tDrawB K) { nx := fun _ H' => Q .non H', rt := Q } (L2.start N vs) H := by
  obtain ⟨f, Z, ds, φ, wf, rs, h⟩ := h
  obtain ⟨hl1, hl2⟩ := rs.lens
  match ds, vs, hl1, hl2, rs, h with
  | [d, e], [x, y], _, _, rs, h =>
    cases d with
    | feed =>
      cases e with
      | int m =>
        have h' : (match (if 0 < m ∧ m < 1073741824 then O.ok (.int (φ.draw m).1) (φ.draw m).2 else .bad : O D) with
          | .ok d φ' => ∀ v Z' H', Ext f Z H Z' H' → Wf K f Z' H' φ' → Res .s K f H Z' H' v d → Q v H'
          | .ex x l φ' => ∀ cl dx Z' H', Ext f Z H Z' H' → Wf K f Z' H' φ' → XRep ⟨K, f, Z, H, cls, [], []⟩ Z' H' x l cl dx → E cl dx H'
          | .bad => False) := h
        by_cases hm : 0 < m ∧ m < 1073741824
        · rw [if_pos hm] at h'
          · obtain ⟨r1, r2, _⟩ := rs
            · obtain rfl := Res.feed (m := .s) (H0 := H) (H := H) r1
              obtain rfl := Res.int (m := .s) (H0 := H) (H := H) r2
              obtain ⟨s, hs, hf⟩ := wf.feed
              have hsf : s ≠ f := fun e => by rw [e, wf.zf] at hs; cases hs
              have hst : L2.start N [.ref f, .int m] = [some (.ref f), some (.int m), none, none, none] := by
                unfold L2.start
                rw [hN] <;> rfl
              rw [hst]
              refine drawA_read wf.ok (wf.sub _ _ hs) hf hsf fun y => ?_
              refine drawB_read (φ := φ.step) (Fd.step_ok wf.ok) hm.1 hm.2 upd_same ?_
              rw [upd_upd]
              have e1 : (φ.draw m).1 = (if φ.step.told > 0 then φ.step.told % m else ((φ.step.st * 16807 + 12345) % 2147483647 * ((φ.step.st * 16807 + 12345) % 2147483647) + (φ.step.st * 16807 + 12345) % 2147483647) % 2147483629 / 11 % m) := by
                unfold Fd.draw
                dsimp only
                split <;> rfl
              have e2 : (φ.draw m).2 = (if φ.step.told > 0 then { φ.step with told := φ.step.told / m } else { φ.step with st := (φ.step.st * 16807 + 12345) % 2147483647 }) := by
                unfold Fd.draw
                dsimp only
                split <;> rfl
              have hcells : (φ.draw m).2.cells = φ.cells := by
                rw [e2]
                have : φ.step.cells = φ.cells := by
                  unfold Fd.step
                  split
                  · dsimp only; split <;> rfl
                  · rfl
                split <;> exact this
              rw [← e1, ← e2]
              have ok2 := Fd.draw_ok wf.ok hm.1
              have up : ∀ b u, b ≠ f → H b = some u → upd H f (.lst (fdL s (φ.draw m).2)) b = some u := fun b u hb q => by rw [upd_ne hb]; exact q
              refine h' _ Z _ ⟨fun _ _ q => q, fun b u hb q => up b u hb q, fun b q => ?_, fun _ _ q => q, fun x vs e => ?_⟩ ⟨fun b u q => up b u (fun e => by rw [e, wf.zf] at q; cases q) (wf.sub b u q), wf.zf, ⟨s, by rw [hcells]; exact hs, upd_same⟩, ok2⟩ (Rep.int _)
              · by_cases hb : b = f
                · rw [hb, upd_same]; simp
                · rw [upd_ne hb]; exact q
              · rw [hf] at e
                cases e
                exact ⟨_, upd_same⟩
        · rw [if_neg hm] at h'
          exact h'.elim
      | _ => exact h.elim
    | _ => exact h.elim
end
end Pf

set_option Elab.async false
set_option linter.all false
set_option maxRecDepth 100000
set_option maxHeartbeats 4000000
namespace Pf
open PySem PySem.Spec PyProof.Rows L2

/-! ## a op b op c -/
def eCh (g g' : D → D → Option D) (A B C : SX) : SX := fun ρ φ => (A ρ φ).bind fun d φ1 => (B ρ φ1).bind fun e φ2 => match g d e with
  | some (.bl true) => (C ρ φ2).bind fun z φ3 => ofO (g' e z) φ3
  | some (.bl false) => .ok (.bl false) φ2
  | _ => .bad
section
variable {X : Cx} {c : Ct} {own : List Ms} {m : Md} {W : WX} {pos : Pos} {a b d : Expr} {A B C : SX}
theorem ch_core {r r' : R2} {g g' : D → D → Option D} (hg : OpG r .o c g) (hg' : OpG r' .o c g') {σ : L2.St} {H : Hp} {Q : VK} (h : tE c own .o W (eCh g g' A B C) σ H Q) :
    tChain r r' (tE c own .p W A) (tE c own .p W B) (tE c own .p W C) σ H Q := by
  obtain ⟨Z, ρ, φ, R, h⟩ := h
  refine ⟨Z, ρ, φ, R, Post.bindE h fun d φ1 x Z1 H1 e1 w1 r1 h1 => ?_⟩
  refine ⟨Z1, ρ, φ1, R.more e1 w1, Post.bindE h1 fun e φ2 y Z2 H2 e2 w2 r2 h2 => ?_⟩
  have r2' : Res .p c.K c.f H2 Z2 H2 y e := r2
  have R2 := (R.more e1 w1).more e2 w2
  cases hz : g d e with
  | none => simp only [hz] at h2; exact h2.elim
  | some z =>
    cases z with
    | bl k =>
      -- the first answer
      refine hg Z2 H2 φ2 x y d e (.bl k) W0 σ _ w2 (show Res .p c.K c.f H2 Z2 H2 x d from r1.pmono e2) r2' hz ?_
      intro v Z3 H3 e3 w3 r3
      refine ⟨k, r3.bl, ?_⟩
      cases k with
      | false =>
        simp only [hz] at h2
        rw [if_neg (by decide)]
        exact h2 _ Z3 H3 e3 w3 (Res.of_flat (.bl false) rfl)
      | true =>
        simp only [hz] at h2
        rw [if_pos rfl]
        refine ⟨Z3, ρ, φ2, R2.more e3 w3, Post.bindE (h2.shift e3) fun t φ4 u Z4 H4 e4 w4 r4 h4 => ?_⟩
        obtain ⟨z', hz', h5⟩ := ofO_ok (E := fun o => Post c .o W o σ Z4 H4 Q) h4 fun z => z
        exact hg' Z4 H4 φ4 y u e t z' W σ Q w4 (show Res .p c.K c.f H4 Z4 H4 y e from (r2'.pmono e3).pmono e4) (show Res .p c.K c.f H4 Z4 H4 u t from r4) hz' h5
    | _ => simp only [hz] at h2; exact h2.elim
theorem x_ch {op op' : CmpOp} {r r' : R2} {g g' : D → D → Option D} (ho : OpR X (compareOp op) r) (ho' : OpR X (compareOp op') r') (hg : OpG r .o c g) (hg' : OpG r' .o c g') (ha : EX X c own .p W a A) (hb : EX X c own .p W b B) (hd : EX X c own .p W d C)
    (hm : lastMarks [op, op'] [b, d] = false := by with_unfolding_all rfl) : EX X c own .o W (.Compare a [op, op'] [b, d] pos) (eCh g g' A B C) := PE.weak (pe_chain ho ho' ha hb hd hm) fun _ _ _ h => ch_core hg hg' h
theorem b_ch {op op' : CmpOp} {r r' : R2} {g g' : D → D → Option D} (ho : OpR X (compareOp op) r) (ho' : OpR X (compareOp op') r') (hg : OpG r .o c g) (hg' : OpG r' .o c g') (ha : EX X c own .p W a A) (hb : EX X c own .p W b B) (hd : EX X c own .p W d C)
    (hm : lastMarks [op, op'] [b, d] = false := by with_unfolding_all rfl) : BX X c own W (.Compare a [op, op'] [b, d] pos) (bVal (eCh g g' A B C)) := by
  refine PT.weak (pt_chain ho ho' ha hb hd hm) ?_
  rintro σ H Q ⟨Z, ρ, φ, R, h⟩
  show tChain r r' _ _ _ σ H fun x H' => ∃ k, x = .bl k ∧ Q k H'
  refine ch_core (A := A) (B := B) (C := C) hg hg' ⟨Z, ρ, φ, R, ?_⟩
  refine Post.bindB h fun d φ1 v Z1 H1 e1 w1 r1 h1 => ?_
  cases d with
  | bl b => exact ⟨b, r1.bl, h1 Z1 H1 .refl w1⟩
  | _ => exact h1.elim
theorem gLt_ok : OpG (rI0 fun i j => .bl (decide (i < j))) m c gLt := gIB_ok
theorem gLe_ok : OpG (rI0 fun i j => .bl (decide (i ≤ j))) m c gLe := gIB_ok
theorem gGt_ok : OpG (rI0 fun i j => .bl (decide (j < i))) m c gGt := gIB_ok
theorem gGe_ok : OpG (rI0 fun i j => .bl (decide (j ≤ i))) m c gGe := gIB_ok
end

/-! ## comprehensions of two clauses -/
/-- the inner turns: what they add -/
def lc2In (T1 : Tg) (tst1 : SB) (elt : SX) (ρ : En) : List D → Fd → O (List D) := lcGo T1 tst1 elt ρ
def lc2Go (T : Tg) (tst : SB) (I1 : SA) (T1 : Tg) (tst1 : SB) (elt : SX) (vs1 : List Nat) (ρ : En) : List D → Fd → O (List D)
  | [], φ => .ok [] φ
  | d :: ds, φ => match T d ρ with
    | none => .bad
    | some ρ1 => match tst ρ1 φ with
      | .ok true φ1 => match I1 ρ1 φ1 with
        | .ok es φ2 => match lcGo T1 tst1 elt (wipeE ρ1 vs1) es φ2 with
          | .ok xs φ3 => match lc2Go T tst I1 T1 tst1 elt vs1 ρ ds φ3 with
            | .ok ys φ4 => .ok (xs ++ ys) φ4
            | _ => .bad
          | _ => .bad
        | _ => .bad
      | .ok false φ1 => lc2Go T tst I1 T1 tst1 elt vs1 ρ ds φ1
      | _ => .bad
def eLc2 (I : SA) (T : Tg) (tst : SB) (I1 : SA) (T1 : Tg) (tst1 : SB) (elt : SX) (vs vs1 : List Nat) : SX := fun ρ φ => (I ρ φ).bind fun ds φ1 => match lc2Go T tst I1 T1 tst1 elt vs1 (wipeE ρ vs) ds φ1 with
  | .ok ys φ2 => if ys.length ≤ sizeLine then .ok (.lst ys) φ2 else .bad
  | _ => .bad
theorem lc2Go_cons {T : Tg} {tst : SB} {I1 : SA} {T1 : Tg} {tst1 : SB} {elt : SX} {vs1 : List Nat} {ρ : En} {d : D} {ds ys : List D} {φ φ' : Fd} (h : lc2Go T tst I1 T1 tst1 elt vs1 ρ (d :: ds) φ = .ok ys φ') :
    ∃ ρ1 b φ1, T d ρ = some ρ1 ∧ tst ρ1 φ = .ok b φ1 ∧ ((b = false ∧ lc2Go T tst I1 T1 tst1 elt vs1 ρ ds φ1 = .ok ys φ') ∨
      (b = true ∧ ∃ es φ2 xs φ3 r, I1 ρ1 φ1 = .ok es φ2 ∧ lcGo T1 tst1 elt (wipeE ρ1 vs1) es φ2 = .ok xs φ3 ∧ lc2Go T tst I1 T1 tst1 elt vs1 ρ ds φ3 = .ok r φ' ∧ ys = xs ++ r)) := by
  unfold lc2Go at h
  cases e1 : T d ρ with
  | none => rw [e1] at h; cases h
  | some ρ1 =>
    rw [e1] at h
    cases e2 : tst ρ1 φ with
    | ex _ _ _ => simp only [e2] at h; cases h
    | bad => simp only [e2] at h; cases h
    | ok b φ1 =>
      cases b with
      | false => simp only [e2] at h; exact ⟨ρ1, false, φ1, rfl, e2, .inl ⟨rfl, h⟩⟩
      | true =>
        simp only [e2] at h
        cases e3 : I1 ρ1 φ1 with
        | ex _ _ _ => simp only [e3] at h; cases h
        | bad => simp only [e3] at h; cases h
        | ok es φ2 =>
          simp only [e3] at h
          cases e4 : lcGo T1 tst1 elt (wipeE ρ1 vs1) es φ2 with
          | ex _ _ _ => simp only [e4] at h; cases h
          | bad => simp only [e4] at h; cases h
          | ok xs φ3 =>
            simp only [e4] at h
            cases e5 : lc2Go T tst I1 T1 tst1 elt vs1 ρ ds φ3 with
            | ex _ _ _ => simp only [e5] at h; cases h
            | bad => simp only [e5] at h; cases h
            | ok r φ4 =>
              simp only [e5] at h
              cases h
              exact ⟨ρ1, true, φ1, rfl, e2, .inr ⟨rfl, es, φ2, xs, φ3, r, e3, e4, e5, rfl⟩⟩
/-- the new list within the turns: D holds acc, what stood stands -/
structure Lcs (c : Ct) (Z1 H1 : Hp) (D : Addr) (Zn Hn : Hp) (φn : Fd) (accV : List V) (acc : List Pf.D) : Prop where
  en : Ext c.f Z1 H1 Zn Hn
  nD : Zn D = none
  wn : Wf c.K c.f Zn Hn φn
  hD : Hn D = some (.lst accV)
  ra : Reps c.K c.f Zn accV acc
theorem Lcs.more {c : Ct} {Z1 H1 Zn Hn Z' H' : Hp} {D : Addr} {φn φ' : Fd} {accV : List V} {acc : List Pf.D} (L : Lcs c Z1 H1 D Zn Hn φn accV acc) (hDf : D ≠ c.f) (e : Ext c.f Zn Hn Z' H') (w : Wf c.K c.f Z' H' φ') : Lcs c Z1 H1 D Z' H' φ' accV acc :=
  ⟨L.en.trans e, e.n D (by rw [L.hD]; simp) L.nD, w, e.h D _ hDf L.hD, L.ra.mono e.z⟩
theorem Lcs.push {c : Ct} {Z1 H1 Zn Hn : Hp} {D : Addr} {φn : Fd} {accV : List V} {acc : List Pf.D} {v : V} {y : Pf.D} (L : Lcs c Z1 H1 D Zn Hn φn accV acc) (hD1 : H1 D = none) (hDf : D ≠ c.f) (r : Rep c.K c.f Zn v y) :
    Lcs c Z1 H1 D Zn (upd Hn D (.lst (accV ++ [v]))) φn (accV ++ [v]) (acc ++ [y]) := by
  refine ⟨⟨L.en.z, fun a o ha hh => ?_, fun a ha => ?_, L.en.n, L.en.d.trans (.same (upd_ne (Ne.symm hDf)))⟩, L.nD, ⟨fun a o ha => ?_, L.wn.zf, ?_, L.wn.ok⟩, upd_same, L.ra.app (.cons r .nil)⟩
  · rw [upd_ne (ne_of_none hh hD1)]; exact L.en.h a o ha hh
  · by_cases hb : a = D
    · rw [hb, upd_same]; simp
    · rw [upd_ne hb]; exact L.en.k a ha
  · rw [upd_ne (fun e => by rw [e, L.nD] at ha; cases ha)]; exact L.wn.sub a o ha
  · obtain ⟨s, k1, k2⟩ := L.wn.feed
    exact ⟨s, k1, by rw [upd_ne (Ne.symm hDf)]; exact k2⟩
theorem Lcs.start {c : Ct} {Z1 H1 : Hp} {D : Addr} {φ1 : Fd} (w1 : Wf c.K c.f Z1 H1 φ1) (hD : H1 D = none) (hDf : D ≠ c.f) : Lcs c Z1 H1 D Z1 (upd H1 D (.lst [])) φ1 [] [] := by
  have up : ∀ b u, H1 b = some u → upd H1 D (.lst []) b = some u := fun b u e => by rw [upd_ne (ne_of_none e hD)]; exact e
  have hz : Z1 D = none := by
    cases e : Z1 D with
    | none => rfl
    | some u => rw [w1.sub D u e] at hD; cases hD
  refine ⟨⟨fun _ _ e => e, fun b u _ e => up b u e, fun b hb => ?_, fun _ _ e => e, .same (upd_ne (Ne.symm hDf))⟩, hz, ⟨fun b u e => up b u (w1.sub b u e), w1.zf, ?_, w1.ok⟩, upd_same, .nil⟩
  · cases e : H1 b with
    | none => exact absurd e hb
    | some u => rw [up b u e]; simp
  · obtain ⟨s, k1, k2⟩ := w1.feed
    exact ⟨s, k1, up _ _ k2⟩
section
variable {X : Cx} {c : Ct} {own o1 o2 : List Ms} {W : WX} {pos : Pos}
theorem lc2_read {I I1 : SA} {T T1 : Tg} {tst tst1 : SB} {elt : SX} {vs vs1 is is1 : List Nat} {σ : L2.St} {H : Hp} {Q : VK} (his : ∀ j ∈ is, j ∈ vs) (his1 : ∀ j ∈ is1, j ∈ vs1) (hvs : ∀ j ∈ vs1, j ∈ vs) (h : tE c own .o W (eLc2 I T tst I1 T1 tst1 elt vs vs1) σ H Q) :
    tLc2 (tI c own true W I) (tT c (ownB own vs) o1 is T) (tB c o1 W0 tst) (tI c o1 false W0 I1) (tT c (ownB o1 vs1) o2 is1 T1) (tB c o2 W0 tst1) (tE c o2 .s W0 elt) vs vs1 σ H Q := by
  obtain ⟨Z, ρ, φ, R, h⟩ := h
  refine ⟨Z, ρ, φ, R, ?_⟩
  unfold eLc2 at h
  cases hI : I ρ φ with
  | bad => rw [hI] at h; exact h
  | ex y l φ' => rw [hI] at h; exact h
  | ok ds φ1 =>
    rw [hI] at h
    intro J Z1 H1 e1 w1 wk D hD
    have hgo : ∃ ys φ2, lc2Go T tst I1 T1 tst1 elt vs1 (wipeE ρ vs) ds φ1 = .ok ys φ2 ∧ ys.length ≤ sizeLine ∧ Post c .o W (.ok (.lst ys) φ2) σ Z H Q := by
      have h' : Post c .o W (match lc2Go T tst I1 T1 tst1 elt vs1 (wipeE ρ vs) ds φ1 with
        | .ok ys φ2 => if ys.length ≤ sizeLine then .ok (.lst ys) φ2 else .bad
        | _ => .bad) σ Z H Q := h
      cases hg : lc2Go T tst I1 T1 tst1 elt vs1 (wipeE ρ vs) ds φ1 with
      | bad => rw [hg] at h'; exact h'.elim
      | ex _ _ _ => rw [hg] at h'; exact h'.elim
      | ok ys φ2 =>
        rw [hg] at h'
        obtain ⟨h1, h2⟩ := iteO_ok (E := fun o => Post c .o W o σ Z H Q) h' fun z => z
        exact ⟨ys, φ2, rfl, h1, h2⟩
    obtain ⟨tot, φe, hgo, hsz, hpost⟩ := hgo
    have hDf : D ≠ c.f := fun e => w1.hf (by rw [← e]; exact hD)
    refine ⟨fun i m Hn => m = ds.length - i ∧ i ≤ ds.length ∧ ∃ Zn φn acc accV rest, Lcs c Z1 H1 D Zn Hn φn accV acc ∧ lc2Go T tst I1 T1 tst1 elt vs1 (wipeE ρ vs) (ds.drop i) φn = .ok rest φe ∧ acc ++ rest = tot,
      ⟨ds.length, by simp, Nat.zero_le _, Z1, φ1, [], [], tot, .start w1 hD hDf, hgo, rfl⟩, ?_⟩
    rintro i m Hn ⟨rfl, hi, Zn, φn, acc, accV, rest, L, hg, ht⟩
    obtain ⟨wk1, wk2⟩ := wk i Zn Hn φn ⟨L.en.z, fun _ => L.en.h, ((R.more e1 w1).ext.trans L.en).h⟩ L.wn
    by_cases hlt : i < ds.length
    · obtain ⟨d, hd⟩ : ∃ d, ds[i]? = some d := ⟨_, List.getElem?_eq_getElem hlt⟩
      obtain ⟨go, step⟩ := wk2 d hd
      rw [List.drop_eq_getElem_cons hlt] at hg
      have hdd : ds[i] = d := by
        rw [List.getElem?_eq_getElem hlt] at hd
        exact Option.some.inj hd
      rw [hdd] at hg
      obtain ⟨ρ1, b, φt, hT, htst, hcase⟩ := lc2Go_cons hg
      refine .inr ⟨go, fun H' => ∃ m', m' < ds.length - i ∧ (m' = ds.length - (i + 1) ∧ i + 1 ≤ ds.length ∧ ∃ Zn φn acc accV rest, Lcs c Z1 H1 D Zn H' φn accV acc ∧ lc2Go T tst I1 T1 tst1 elt vs1 (wipeE ρ vs) (ds.drop (i + 1)) φn = .ok rest φe ∧ acc ++ rest = tot), fun H' h => h, fun x Hx hx => ?_⟩
      obtain ⟨Zx, ex, wx, rx⟩ := step x Hx hx
      have Lx := L.more hDf ex wx
      have Rb : Rl c (ownB own vs) Zx (wipeE ρ vs) φn (L2.wipe σ vs) Hx := ((R.more e1 w1).more Lx.en wx).block vs
      refine ⟨Zx, wipeE ρ vs, φn, d, ρ1, Rb, rx, hT, fun σ2 tr agr => ⟨?_, Zx, ρ1, φn, tr Zx Hx φn Sub.refl Rb, ?_⟩⟩
      · have hh : L2.wipe σ2 vs = L2.wipe (L2.wipe σ vs) vs := agr.wipe his
        rw [hh]
        refine Agr.wipe (is := vs) ⟨wipe_length _ _, fun j hj => wipe_out hj⟩ fun j h => h
      · rw [htst]
        intro Z3 H3 e3 w3
        have L3 := Lx.more hDf e3 w3
        rcases hcase with ⟨rfl, hr⟩ | ⟨rfl, es, φi, xs, φx, r, hI1, hin, hr, hys⟩
        · rw [if_neg (by decide)]
          exact ⟨ds.length - (i + 1), by omega, rfl, hlt, Z3, φt, acc, accV, rest, L3, hr, ht⟩
        · rw [if_pos rfl]
          have R3 := (tr Zx Hx φn Sub.refl Rb).more e3 w3
          refine ⟨Z3, ρ1, φt, R3, ?_⟩
          rw [hI1]
          intro J1 Z4 H4 e4 w4 wk4
          have L4 := L3.more hDf e4 w4
          have R4 := R3.more e4 w4
          -- the inner walk
          refine ⟨fun j k Hm => k = es.length - j ∧ j ≤ es.length ∧ ∃ Zm φm acc' accV' rest', Lcs c Z1 H1 D Zm Hm φm accV' acc' ∧ Sub Z4 Zm ∧ lcGo T1 tst1 elt (wipeE ρ1 vs1) (es.drop j) φm = .ok rest' φx ∧ acc' ++ rest' = acc ++ xs,
            ⟨es.length, by simp, Nat.zero_le _, Z4, φi, acc, accV, xs, L4, Sub.refl, hin, rfl⟩, ?_⟩
          rintro j k Hm ⟨rfl, hj, Zm, φm, acc', accV', rest', Lm, em, hgm, htm⟩
          obtain ⟨vk1, vk2⟩ := wk4 j Zm Hm φm ⟨em, fun e => absurd e (by decide), ((R.more e1 w1).ext.trans Lm.en).h⟩ Lm.wn
          by_cases hjl : j < es.length
          · obtain ⟨d1, hd1⟩ : ∃ d, es[j]? = some d := ⟨_, List.getElem?_eq_getElem hjl⟩
            obtain ⟨go1, step1⟩ := vk2 d1 hd1
            rw [List.drop_eq_getElem_cons hjl] at hgm
            have hdd1 : es[j] = d1 := by
              rw [List.getElem?_eq_getElem hjl] at hd1
              exact Option.some.inj hd1
            rw [hdd1] at hgm
            obtain ⟨ρ2, b1, φu, hT1, htst1, hcase1⟩ := lcGo_cons hgm
            refine .inr ⟨go1, fun H' => ∃ k', k' < es.length - j ∧ (k' = es.length - (j + 1) ∧ j + 1 ≤ es.length ∧ ∃ Zm φm acc' accV' rest', Lcs c Z1 H1 D Zm H' φm accV' acc' ∧ Sub Z4 Zm ∧ lcGo T1 tst1 elt (wipeE ρ1 vs1) (es.drop (j + 1)) φm = .ok rest' φx ∧ acc' ++ rest' = acc ++ xs), fun H' h => h, fun x1 Hy hy => ?_⟩
            obtain ⟨Zy, ey, wy, ry⟩ := step1 x1 Hy hy
            have Ly := Lm.more hDf ey wy
            have kxy : Sub Zx Zy := ((Sub.trans e3.z e4.z).trans em).trans ey.z
            have Ry : Rl c o1 Zy ρ1 φm σ2 Hy := tr Zy Hy φm kxy (((R.more e1 w1).more Ly.en wy).block vs)
            have Rb1 : Rl c (ownB o1 vs1) Zy (wipeE ρ1 vs1) φm (L2.wipe σ2 vs1) Hy := Ry.block vs1
            refine ⟨Zy, wipeE ρ1 vs1, φm, d1, ρ2, Rb1, ry, hT1, fun σ3 tr1 agr1 => ⟨?_, Zy, ρ2, φm, tr1 Zy Hy φm Sub.refl Rb1, ?_⟩⟩
            · have hh : L2.wipe σ3 vs1 = L2.wipe (L2.wipe σ2 vs1) vs1 := agr1.wipe his1
              rw [hh]
              refine Agr.wipe (is := vs1) ⟨wipe_length _ _, fun j hj => wipe_out hj⟩ fun j h => h
            · rw [htst1]
              intro Z6 H6 e6 w6
              have L6 := Ly.more hDf e6 w6
              rcases hcase1 with ⟨rfl, hr1⟩ | ⟨rfl, y, φy, r1, hy1, hr1, hys1⟩
              · rw [if_neg (by decide)]
                exact ⟨es.length - (j + 1), by omega, rfl, hjl, Z6, φu, acc', accV', rest', L6, (em.trans ey.z).trans e6.z, hr1, htm⟩
              · rw [if_pos rfl]
                refine ⟨Z6, ρ2, φu, (tr1 Zy Hy φm Sub.refl Rb1).more e6 w6, ?_⟩
                rw [hy1]
                intro v Z7 H7 e7 w7 r7
                have r7' : Rep c.K c.f Z7 v y := r7
                have L7 := L6.more hDf e7 w7
                have hacc : accV'.length < sizeLine := by
                  have g1 := Lm.ra.length
                  have g2 : (acc ++ rest).length ≤ sizeLine := by rw [ht]; exact hsz
                  have g3 := congrArg List.length htm
                  rw [hys1] at g3
                  rw [hys] at g2
                  simp only [List.length_append, List.length_cons] at g2 g3
                  omega
                exact ⟨accV', L7.hD, hacc, es.length - (j + 1), by omega, rfl, hjl, Z7, φy, acc' ++ [y], accV' ++ [v], r1, L7.push hD hDf r7', ((em.trans ey.z).trans e6.z).trans e7.z, hr1, by rw [List.append_assoc, ← htm, hys1]; rfl⟩
          · have hje : j = es.length := by omega
            refine .inl ⟨vk1 hje, ?_⟩
            rw [hje, List.drop_length] at hgm
            cases hgm
            rw [List.append_nil] at htm
            exact ⟨ds.length - (i + 1), by omega, rfl, hlt, Zm, φx, acc', accV', r, Lm, hr, by rw [htm, List.append_assoc, ← hys]; exact ht⟩
    · have hie : i = ds.length := by omega
      refine .inl ⟨wk1 hie, ?_⟩
      rw [hie, List.drop_length] at hg
      cases hg
      rw [List.append_nil] at ht
      subst ht
      have e2 := e1.trans L.en
      refine hpost (.ref D) Zn Hn e2 L.wn ?_
      show Res .o c.K c.f H Zn Hn (.ref D) (.lst acc)
      unfold Res
      rw [if_pos (by rfl)]
      refine ⟨D, .lst accV, rfl, ?_, L.nD, hDf, L.hD, .lst L.ra⟩
      cases e : H D with
      | none => rfl
      | some u => exact absurd hD (e1.k D (by rw [e]; simp))
end
end Pf

set_option Elab.async false
set_option linter.all false
set_option maxRecDepth 100000
set_option maxHeartbeats 4000000
namespace Pf
open PySem PySem.Spec PyProof.Rows L2

/-! ## order of data -/
def ltD (d e : D) : Bool := PySem.W.dataLt d.py e.py
def okLt (d e : D) : Bool := PySem.W.alike d.py e.py && d.shp && e.shp && !d.isNon
def rCmpD (K : PySem.W.Frag) (g : PyData → PyData → Bool) : R2 := fun x y H Q => ∃ d e, Dp K H x d ∧ Dp K H y e ∧ PySem.W.alike d e = true ∧ SeqAt.shaped d = true ∧ d ≠ .none ∧ Q (.bl (g d e)) H
section
variable {X : Cx}
theorem room_min {d e : PyData} {n : Nat} (sd : SeqAt.shaped d = true) (hu : n + 64 < cLine) : n + min d.depth e.depth < cLine := by
  have := SeqAt.depth_of_shaped sd
  omega
theorem op_ltD (hu : X.A.units + 64 < cLine) : OpR X (compareOp .Lt) (rCmpD X.K fun d e => PySem.W.dataLt d e) := by
  intro pins s σ H x y v u Q I rx ry h
  obtain ⟨d, e, hd, he, al, sd, hn, q⟩ := h
  obtain ⟨as, r1⟩ := Dp.reads I d x v hd rx
  obtain ⟨bs, r2⟩ := Dp.reads I e y u he ry
  exact PySem.W.lt_data r1 r2 al hn (room_min sd hu) ⟨.bl _, H, I, rfl, q⟩
theorem op_gtD (hu : X.A.units + 64 < cLine) : OpR X (compareOp .Gt) (rCmpD X.K fun d e => PySem.W.dataLt e d) := by
  intro pins s σ H x y v u Q I rx ry h
  obtain ⟨d, e, hd, he, al, sd, hn, q⟩ := h
  obtain ⟨as, r1⟩ := Dp.reads I d x v hd rx
  obtain ⟨bs, r2⟩ := Dp.reads I e y u he ry
  exact PySem.W.gt_data r1 r2 al hn (room_min sd hu) ⟨.bl _, H, I, rfl, q⟩
theorem op_leD (hu : X.A.units + 64 < cLine) : OpR X (compareOp .LtE) (rCmpD X.K fun d e => !PySem.W.dataLt e d) := by
  intro pins s σ H x y v u Q I rx ry h
  obtain ⟨d, e, hd, he, al, sd, hn, q⟩ := h
  obtain ⟨as, r1⟩ := Dp.reads I d x v hd rx
  obtain ⟨bs, r2⟩ := Dp.reads I e y u he ry
  exact PySem.W.le_data r1 r2 al hn (room_min sd hu) ⟨.bl _, H, I, rfl, q⟩
theorem op_geD (hu : X.A.units + 64 < cLine) : OpR X (compareOp .GtE) (rCmpD X.K fun d e => !PySem.W.dataLt d e) := by
  intro pins s σ H x y v u Q I rx ry h
  obtain ⟨d, e, hd, he, al, sd, hn, q⟩ := h
  obtain ⟨as, r1⟩ := Dp.reads I d x v hd rx
  obtain ⟨bs, r2⟩ := Dp.reads I e y u he ry
  exact PySem.W.ge_data r1 r2 al hn (room_min sd hu) ⟨.bl _, H, I, rfl, q⟩
end
def gLtD : D → D → Option D := fun d e => if okLt d e = true then some (.bl (ltD d e)) else none
def gGtD : D → D → Option D := fun d e => if okLt d e = true then some (.bl (ltD e d)) else none
def gLeD : D → D → Option D := fun d e => if okLt d e = true then some (.bl (!ltD e d)) else none
def gGeD : D → D → Option D := fun d e => if okLt d e = true then some (.bl (!ltD d e)) else none
theorem okLt_ok {d e : D} (h : okLt d e = true) : PySem.W.alike d.py e.py = true ∧ d.shp = true ∧ e.shp = true ∧ d.py ≠ .none := by
  unfold okLt at h
  simp only [Bool.and_eq_true, Bool.not_eq_true'] at h
  obtain ⟨⟨⟨h1, h2⟩, h3⟩, h4⟩ := h
  refine ⟨h1, h2, h3, ?_⟩
  intro q
  cases d <;> first | (cases q; done) | (simp [D.isNon] at h4)
section
variable {X : Cx} {c : Ct} {own : List Ms} {m : Md} {W : WX} {a b : Expr} {A B : SX} {pos : Pos}
theorem cmpD_ok {g : PyData → PyData → Bool} : OpG (rCmpD c.K g) m c (fun d e => if okLt d e = true then some (.bl (g d.py e.py)) else none) := by
  intro Z H φ x y d e z W σ Q w rx ry hg h
  obtain ⟨hs, rfl⟩ := ifs hg
  obtain ⟨h1, h2, h3, h4⟩ := okLt_ok hs
  exact ⟨_, _, rx.dp w (SeqAt.canLay_of_shaped h2), ry.dp w (SeqAt.canLay_of_shaped h3), h1, h2, h4, h.nowB w⟩
theorem gLtD_ok : OpG (rCmpD c.K fun d e => PySem.W.dataLt d e) m c gLtD := cmpD_ok
theorem gGtD_ok : OpG (rCmpD c.K fun d e => PySem.W.dataLt e d) m c gGtD := cmpD_ok
theorem gLeD_ok : OpG (rCmpD c.K fun d e => !PySem.W.dataLt e d) m c gLeD := cmpD_ok
theorem gGeD_ok : OpG (rCmpD c.K fun d e => !PySem.W.dataLt d e) m c gGeD := cmpD_ok
theorem x_ltD (hK : X.K = c.K) (hu : X.A.units + 64 < cLine) (ha : EX X c own .p W a A) (hb : EX X c own .p W b B) : EX X c own .o W (.Compare a [.Lt] [b] pos) (eBin gLtD A B) := x_cmp (op_ltD hu) (by rw [hK]; exact gLtD_ok) ha hb (nomark _)
theorem x_gtD (hK : X.K = c.K) (hu : X.A.units + 64 < cLine) (ha : EX X c own .p W a A) (hb : EX X c own .p W b B) : EX X c own .o W (.Compare a [.Gt] [b] pos) (eBin gGtD A B) := x_cmp (op_gtD hu) (by rw [hK]; exact gGtD_ok) ha hb (nomark _)
theorem x_leD (hK : X.K = c.K) (hu : X.A.units + 64 < cLine) (ha : EX X c own .p W a A) (hb : EX X c own .p W b B) : EX X c own .o W (.Compare a [.LtE] [b] pos) (eBin gLeD A B) := x_cmp (op_leD hu) (by rw [hK]; exact gLeD_ok) ha hb (nomark _)
theorem x_geD (hK : X.K = c.K) (hu : X.A.units + 64 < cLine) (ha : EX X c own .p W a A) (hb : EX X c own .p W b B) : EX X c own .o W (.Compare a [.GtE] [b] pos) (eBin gGeD A B) := x_cmp (op_geD hu) (by rw [hK]; exact gGeD_ok) ha hb (nomark _)
theorem b_ltD (hK : X.K = c.K) (hu : X.A.units + 64 < cLine) (ha : EX X c own .p W a A) (hb : EX X c own .p W b B) : BX X c own W (.Compare a [.Lt] [b] pos) (bCmp gLtD A B) := b_cmp (op_ltD hu) (by rw [hK]; exact gLtD_ok) ha hb (nomark _)
theorem b_gtD (hK : X.K = c.K) (hu : X.A.units + 64 < cLine) (ha : EX X c own .p W a A) (hb : EX X c own .p W b B) : BX X c own W (.Compare a [.Gt] [b] pos) (bCmp gGtD A B) := b_cmp (op_gtD hu) (by rw [hK]; exact gGtD_ok) ha hb (nomark _)
theorem b_leD (hK : X.K = c.K) (hu : X.A.units + 64 < cLine) (ha : EX X c own .p W a A) (hb : EX X c own .p W b B) : BX X c own W (.Compare a [.LtE] [b] pos) (bCmp gLeD A B) := b_cmp (op_leD hu) (by rw [hK]; exact gLeD_ok) ha hb (nomark _)
theorem b_geD (hK : X.K = c.K) (hu : X.A.units + 64 < cLine) (ha : EX X c own .p W a A) (hb : EX X c own .p W b B) : BX X c own W (.Compare a [.GtE] [b] pos) (bCmp gGeD A B) := b_cmp (op_geD hu) (by rw [hK]; exact gGeD_ok) ha hb (nomark _)
end

/-! ## sorted -/
def leD (d e : D) : Bool := !ltD e d
def sortD (l : List D) : List D := l.mergeSort leD
/-- what sorted asks of the items -/
def okSort (l : List D) : Prop := (∀ d ∈ l, ∀ e ∈ l, PySem.W.alike d.py e.py = true) ∧ (∀ d ∈ l, d.shp = true) ∧ ((∀ d ∈ l, ∃ x r, d = .tup (x :: r)) ∨ ∀ d ∈ l, d ≠ .non ∧ ∀ xs, d ≠ .tup xs)
noncomputable instance okSortD (l : List D) : Decidable (okSort l) := Classical.propDecidable _
noncomputable def gSorted : List D → Option D
  | [.lst l] => if okSort l then some (.lst (sortD l)) else none
  | _ => none
theorem gSorted_l {l : List D} (h : okSort l) : gSorted [.lst l] = some (.lst (sortD l)) := by
  show (if okSort l then some (D.lst (sortD l)) else none) = _
  rw [if_pos h]
def leP (p q : V × PyData) : Bool := !PySem.W.dataLt q.2 p.2
def rSortedD (K : PySem.W.Frag) : List V → Hp → VK → Prop := fun vs H Q => ∃ (a : Addr) (ps : List (V × PyData)), vs = [V.ref a] ∧ SqL K H a (ps.map Prod.fst) ∧ (∀ p ∈ ps, Dp K H p.1 p.2) ∧ (∀ p ∈ ps, ∀ q ∈ ps, PySem.W.alike p.2 q.2 = true) ∧ (∀ p ∈ ps, SeqAt.shaped p.2 = true) ∧
  PySem.W.Sortable (ps.map Prod.snd) ∧ ∀ (p : Addr), H p = none → Q (.ref p) (upd H p (.lst ((ps.mergeSort leP).map Prod.fst)))
section
variable {X : Cx}
theorem vals_each {α : Type} {f : α → V} : ∀ {bs : List α} {vs : List Value}, Vals (bs.map f) vs → PySem.W.EachIs (fun v b => RelV (f b) v) vs bs
  | [], _, h => by cases h; exact .nil
  | b :: bs, _, h => by
    cases h with
    | cons h1 h2 => exact .cons h1 (vals_each h2)
theorem each_vals {α : Type} {f : α → V} : ∀ {bs : List α} {vs : List Value}, PySem.W.EachIs (fun v b => RelV (f b) v) vs bs → Vals (bs.map f) vs
  | [], _, h => by cases h; exact .nil
  | b :: bs, _, h => by
    cases h with
    | cons h1 h2 => exact .cons h1 (each_vals h2)
theorem each_mono {α β : Type} {R S : α → β → Prop} : ∀ {as : List α} {bs : List β}, PySem.W.EachIs R as bs → (∀ a b, b ∈ bs → R a b → S a b) → PySem.W.EachIs S as bs
  | _, _, .nil, _ => .nil
  | _, _, .cons h t, k => .cons (k _ _ List.mem_cons_self h) (each_mono t fun a b hb => k a b (List.mem_cons_of_mem _ hb))
theorem each_map {α β γ : Type} {R : α → γ → Prop} (f : β → γ) : ∀ {as : List α} {bs : List β}, PySem.W.EachIs (fun a b => R a (f b)) as bs → PySem.W.EachIs R as (bs.map f)
  | _, _, .nil => .nil
  | _, _, .cons h t => .cons h (each_map f t)
theorem cr_sortedD (hu : X.A.units + 66 < cLine) : CallR X (.builtin "sorted") (rSortedD X.K) := by
  intro pins s σ H vs us Q I r h
  obtain ⟨a, ps, rfl, hs, hd, hal, hsh, hst, q⟩ := h
  obtain ⟨its, rv, hl, hz⟩ := I.list hs
  rw [Vals.ref1 r]
  have e0 : PySem.W.EachIs (fun v (b : V × PyData) => RelV b.1 v) its ps := vals_each rv
  have keep : ∀ b o, s.heap.get? b = some o → (PySem.W.sortingHeap (PySem.W.copyHeap s.heap its) (s.heap.objs.size + 1) its).get? b = some o := fun b o e => PySem.W.sorting_copy_old e
  have e1 : PySem.W.EachIs (fun v (b : V × PyData) => RelV b.1 v ∧ ∃ as, Reads (PySem.W.sortingHeap (PySem.W.copyHeap s.heap its) (s.heap.objs.size + 1) its) v b.2 as) its ps :=
    each_mono e0 fun v b hb rb => by
      obtain ⟨as, ra⟩ := Dp.reads I b.2 b.1 v (hd b hb) rb
      exact ⟨rb, as, PyProof.Rows.Reads.keeps keep ra⟩
  have e2 := each_map (R := fun v d => ∃ as, Reads (PySem.W.sortingHeap (PySem.W.copyHeap s.heap its) (s.heap.objs.size + 1) its) v d as) Prod.snd (each_mono e1 fun _ _ _ q => q.2)
  have hAll : PySem.W.AllAlike (ps.map Prod.snd) := fun d h1 d' h2 => by
    obtain ⟨p, hp, rfl⟩ := List.mem_map.mp h1
    obtain ⟨p', hp', rfl⟩ := List.mem_map.mp h2
    exact hal p hp p' hp'
  have S := PySem.W.SortsAt.data (prog := X.prog) (w := X.w) (A := X.A.in1.in1) (s := { s with heap := PySem.W.sortingHeap (PySem.W.copyHeap s.heap its) (s.heap.objs.size + 1) its }) e2 hAll hst fun d h1 => by
    obtain ⟨p, hp, rfl⟩ := List.mem_map.mp h1
    have := SeqAt.depth_of_shaped (hsh p hp)
    show X.A.units + 1 + 1 + _ < cLine
    omega
  have hzi : its.length ≤ sizeLine := by rw [← rv.length]; exact hz
  refine PySem.W.sorted_vals hl.isList S hzi ?_
  obtain ⟨ep, he'⟩ := PyProof.Rows.sortedAll_at s.heap its (PySem.W.sortVals (PySem.W.dataKind (PySem.W.sortingHeap (PySem.W.copyHeap s.heap its) (s.heap.objs.size + 1) its) (ps.map Prod.snd)) false its its).toArray
  have kk : PySem.W.EachIs (fun v (b : V × PyData) => (PySem.W.dataKind (PySem.W.sortingHeap (PySem.W.copyHeap s.heap its) (s.heap.objs.size + 1) its) (ps.map Prod.snd)).keyOf v = some (PySem.W.keyToks b.2)) its ps :=
    each_mono e1 fun v b hb ⟨_, as, ra⟩ => PySem.W.dataKind_some hAll (List.mem_map.mpr ⟨b, hb, rfl⟩) ra
  have out := PySem.W.sortVals_each (κ := PySem.W.dataKind (PySem.W.sortingHeap (PySem.W.copyHeap s.heap its) (s.heap.objs.size + 1) its) (ps.map Prod.snd)) (rev := false) (fun b : V × PyData => PySem.W.keyToks b.2) e0 kk
  have hle : PySem.W.sortLe (listOrd itemOrd) false (fun b : V × PyData => PySem.W.keyToks b.2) = leP := rfl
  have out' : Vals ((ps.mergeSort leP).map Prod.fst) (PySem.W.sortVals (PySem.W.dataKind (PySem.W.sortingHeap (PySem.W.copyHeap s.heap its) (s.heap.objs.size + 1) its) (ps.map Prod.snd)) false its its) := each_vals out
  have hlen : ((ps.mergeSort leP).map Prod.fst).length ≤ sizeLine := by
    rw [List.length_map, (List.mergeSort_perm _ _).length_eq]
    rw [List.length_map] at hz
    exact hz
  exact ⟨.ref _, upd H (s.heap.objs.size + 1) (.lst ((ps.mergeSort leP).map Prod.fst)), I.laid (t' := s.toks) (fun _ _ => PyProof.Rows.sortedAll_old) (Nat.le_succ _) ⟨hlen, _, ep, out', he'⟩, rfl, q _ (I.hok.fresh (Nat.le_succ _))⟩
end
theorem reps_zip {K : PySem.W.Frag} {f : Addr} {Z : Hp} : ∀ {vs : List V} {ds : List D}, Reps K f Z vs ds → (vs.zip ds).map Prod.fst = vs ∧ (vs.zip ds).map Prod.snd = ds ∧ ∀ p ∈ vs.zip ds, Rep K f Z p.1 p.2
  | _, _, .nil => ⟨rfl, rfl, fun p h => by cases h⟩
  | _, _, .cons r s => by
    obtain ⟨h1, h2, h3⟩ := reps_zip s
    refine ⟨by simp [h1], by simp [h2], fun p hp => ?_⟩
    rw [List.zip_cons_cons] at hp
    rcases List.mem_cons.mp hp with rfl | hp
    · exact r
    · exact h3 p hp
theorem reps_of_zip {K : PySem.W.Frag} {f : Addr} {Z : Hp} : ∀ {ps : List (V × D)}, (∀ p ∈ ps, Rep K f Z p.1 p.2) → Reps K f Z (ps.map Prod.fst) (ps.map Prod.snd)
  | [], _ => .nil
  | p :: ps, h => .cons (h p List.mem_cons_self) (reps_of_zip fun q hq => h q (List.mem_cons_of_mem _ hq))
theorem sorted_core {c : Ct} {Z H : Hp} {φ : Fd} {a : Addr} {vs : List V} {ds : List D} {Q : VK} {W : WX} {σ : L2.St} (w : Wf c.K c.f Z H φ) (hl : SqL c.K H a vs) (rs : Reps c.K c.f Z vs ds) (ok : okSort ds) (h : Post c .o W (.ok (.lst (sortD ds)) φ) σ Z H Q) : rSortedD c.K [.ref a] H Q := by
  obtain ⟨h1, h2, h3⟩ := reps_zip rs
  obtain ⟨o1, o2, o3⟩ := ok
  have mem : ∀ p ∈ vs.zip ds, p.2 ∈ ds := fun p hp => by rw [← h2]; exact List.mem_map.mpr ⟨p, hp, rfl⟩
  refine ⟨a, (vs.zip ds).map fun p => (p.1, p.2.py), rfl, ?_, ?_, ?_, ?_, ?_, ?_⟩
  · rw [List.map_map]
    show SqL c.K H a ((vs.zip ds).map Prod.fst)
    rw [h1]
    exact hl
  · intro p hp
    obtain ⟨q, hq, rfl⟩ := List.mem_map.mp hp
    exact Dp.mono w.sub (Rep.dp (h3 q hq) (SeqAt.canLay_of_shaped (o2 _ (mem q hq))))
  · intro p hp p' hp'
    obtain ⟨q, hq, rfl⟩ := List.mem_map.mp hp
    obtain ⟨q', hq', rfl⟩ := List.mem_map.mp hp'
    exact o1 _ (mem q hq) _ (mem q' hq')
  · intro p hp
    obtain ⟨q, hq, rfl⟩ := List.mem_map.mp hp
    exact o2 _ (mem q hq)
  · rcases o3 with o3 | o3
    · refine .inl fun d hd => ?_
      obtain ⟨p, hp, rfl⟩ := List.mem_map.mp hd
      obtain ⟨q, hq, rfl⟩ := List.mem_map.mp hp
      obtain ⟨x, r, e⟩ := o3 _ (mem q hq)
      refine ⟨x.py, D.pys r, ?_⟩
      show q.2.py = _
      rw [e]
      rfl
    · refine .inr fun d hd => ?_
      obtain ⟨p, hp, rfl⟩ := List.mem_map.mp hd
      obtain ⟨q, hq, rfl⟩ := List.mem_map.mp hp
      obtain ⟨n1, n2⟩ := o3 _ (mem q hq)
      refine ⟨fun e => n1 ?_, fun xs e => ?_⟩
      · cases hh : q.2 <;> rw [hh] at e <;> first | rfl | (cases e; done)
      · cases hh : q.2 <;> rw [hh] at e <;> first | exact n2 _ hh | (cases e; done)
  · have e : ((vs.zip ds).map fun p => (p.1, p.2.py)).mergeSort leP = ((vs.zip ds).mergeSort fun p q => leD p.2 q.2).map fun p => (p.1, p.2.py) :=
      (List.map_mergeSort (f := fun p : V × D => (p.1, p.2.py)) (r := fun p q => leD p.2 q.2) (s := leP) fun a _ b _ => rfl).symm
    rw [e, List.map_map]
    have e2 : ((vs.zip ds).mergeSort fun p q => leD p.2 q.2).map Prod.snd = sortD ds := by
      have := List.map_mergeSort (f := Prod.snd) (r := fun p q : V × D => leD p.2 q.2) (s := leD) (l := vs.zip ds) fun a _ b _ => rfl
      rw [this, h2]
      rfl
    have rs' : Reps c.K c.f Z (((vs.zip ds).mergeSort fun p q => leD p.2 q.2).map Prod.fst) (sortD ds) := by
      rw [← e2]
      exact reps_of_zip fun p hp => h3 p ((List.mergeSort_perm _ _).mem_iff.mp hp)
    exact h.newO w (.lst rs')
theorem gSorted_ok {c : Ct} : CallG (rSortedD c.K) .o c gSorted := by
  intro Z H φ xs ds z W σ Q w r hg h
  match ds, hg, r with
  | [.lst l], hg, r =>
    obtain ⟨x, rfl, rr⟩ := r.one
    have hg' : (if okSort l then some (D.lst (sortD l)) else none) = some z := hg
    obtain ⟨ok, rfl⟩ := ifs hg'
    obtain ⟨p, vs, rfl, hp, q⟩ := rr.lst w
    exact sorted_core w (SqL.of hp) q ok h

/-! ## comprehensions of two clauses: as expressions, and bound to a name -/
section
variable {X : Cx} {c : Ct} {w : Ow} {own o1 o2 : List Ms} {W : WX} {pos : Pos}
theorem x_lc2 {elt tg iter tg1 iter1 : Expr} {ifs ifs1 : List Expr} {scope : Scope} (nm : List (Str × Nat)) {is is1 : List Nat} (vs1 : List Nat) {I I1 : SA} {T T1 : Tg} {tst tst1 : SB} {elt' : SX} (hc : X.calm = true) (hN : X.N.Nodup) (ok : blkC X.N X.env.scope scope nm = true)
    (hi : IJ X c own true W tg iter I)
    (hg : ∀ (s : Shared) (H : Hp) (C : Addr) (cl : List (Str × Addr)) (fp : List Addr), TJ (X.blk s H scope (compEnvC scope cl C X.env) fp) c (ownB own (nm.map (·.2))) o1 is tg T)
    (ht : ∀ (s : Shared) (H : Hp) (C : Addr) (cl : List (Str × Addr)) (fp : List Addr), PTs (X.blk s H scope (compEnvC scope cl C X.env) fp) ifs (tB c o1 W0 tst))
    (hi1 : ∀ (s : Shared) (H : Hp) (C : Addr) (cl : List (Str × Addr)) (fp : List Addr), IJ (X.blk s H scope (compEnvC scope cl C X.env) fp) c o1 false W0 tg1 iter1 I1)
    (hg1 : ∀ (s : Shared) (H : Hp) (C : Addr) (cl : List (Str × Addr)) (fp : List Addr), TJ (X.blk s H scope (compEnvC scope cl C X.env) fp) c (ownB o1 vs1) o2 is1 tg1 T1)
    (ht1 : ∀ (s : Shared) (H : Hp) (C : Addr) (cl : List (Str × Addr)) (fp : List Addr), PTs (X.blk s H scope (compEnvC scope cl C X.env) fp) ifs1 (tB c o2 W0 tst1))
    (he : ∀ (s : Shared) (H : Hp) (C : Addr) (cl : List (Str × Addr)) (fp : List Addr), EX (X.blk s H scope (compEnvC scope cl C X.env) fp) c o2 .s W0 elt elt')
    (hs : ∀ x, foldedSetIterable iter X.env x = pure x := by intro _; rfl) (hs1 : ∀ env x, foldedSetIterable iter1 env x = pure x := by intro _ _; rfl) (hsub : ∀ j ∈ is, j ∈ nm.map (·.2) := by decide) (hsub1 : ∀ j ∈ is1, j ∈ vs1 := by decide) (hvs : ∀ j ∈ vs1, j ∈ nm.map (·.2) := by decide) :
    EX X c own .o W (.ListComp elt [⟨tg, iter, ifs, 0⟩, ⟨tg1, iter1, ifs1, 0⟩] scope pos) (eLc2 I T tst I1 T1 tst1 elt' (nm.map (·.2)) vs1) :=
  PE.weak (pe_lc2 hc hN hi (blkOk_by ok) hvs hg ht hi1 hg1 ht1 he hs hs1) fun _ _ _ h => lc2_read hsub hsub1 hvs h
theorem s_setLc2 (i : Nat) {y : Str} {py : Pos} {elt tg iter tg1 iter1 : Expr} {ifs ifs1 : List Expr} {scope : Scope} (nm : List (Str × Nat)) {is is1 : List Nat} (vs1 : List Nat) {I I1 : SA} {T T1 : Tg} {tst tst1 : SB} {elt' : SX} {lcp : Pos} (hc : X.calm = true) (hN : X.N.Nodup) (ok : blkC X.N X.env.scope scope nm = true)
    (hi : IJ X c own true w.W tg iter I)
    (hg : ∀ (s : Shared) (H : Hp) (C : Addr) (cl : List (Str × Addr)) (fp : List Addr), TJ (X.blk s H scope (compEnvC scope cl C X.env) fp) c (ownB own (nm.map (·.2))) o1 is tg T)
    (ht : ∀ (s : Shared) (H : Hp) (C : Addr) (cl : List (Str × Addr)) (fp : List Addr), PTs (X.blk s H scope (compEnvC scope cl C X.env) fp) ifs (tB c o1 W0 tst))
    (hi1 : ∀ (s : Shared) (H : Hp) (C : Addr) (cl : List (Str × Addr)) (fp : List Addr), IJ (X.blk s H scope (compEnvC scope cl C X.env) fp) c o1 false W0 tg1 iter1 I1)
    (hg1 : ∀ (s : Shared) (H : Hp) (C : Addr) (cl : List (Str × Addr)) (fp : List Addr), TJ (X.blk s H scope (compEnvC scope cl C X.env) fp) c (ownB o1 vs1) o2 is1 tg1 T1)
    (ht1 : ∀ (s : Shared) (H : Hp) (C : Addr) (cl : List (Str × Addr)) (fp : List Addr), PTs (X.blk s H scope (compEnvC scope cl C X.env) fp) ifs1 (tB c o2 W0 tst1))
    (he : ∀ (s : Shared) (H : Hp) (C : Addr) (cl : List (Str × Addr)) (fp : List Addr), EX (X.blk s H scope (compEnvC scope cl C X.env) fp) c o2 .s W0 elt elt')
    (hy : X.N[i]? = some y := by rfl) (hyl : X.env.scope.names.lookup y = some .local := by rfl) (hsw : swapsWith (.ListComp elt [⟨tg, iter, ifs, 0⟩, ⟨tg1, iter1, ifs1, 0⟩] scope lcp) (some (.Name y py)) pos.line X.env = pure true := by exact sw_true rfl rfl rfl (by decide +kernel))
    (hl : i < own.length := by decide) (hs : ∀ x, foldedSetIterable iter X.env x = pure x := by intro _; rfl) (hs1 : ∀ env x, foldedSetIterable iter1 env x = pure x := by intro _ _; rfl) (hsub : ∀ j ∈ is, j ∈ nm.map (·.2) := by decide) (hsub1 : ∀ j ∈ is1, j ∈ vs1 := by decide) (hvs : ∀ j ∈ vs1, j ∈ nm.map (·.2) := by decide) (ho : w.ox own := by first | exact trivial | rfl) :
    SJ X c w own (own.set i .o) (.Assign [.Name y py] (.ListComp elt [⟨tg, iter, ifs, 0⟩, ⟨tg1, iter1, ifs1, 0⟩] scope lcp) pos) (sSet i (eLc2 I T tst I1 T1 tst1 elt' (nm.map (·.2)) vs1)) := by
  refine PS.weak (ps_setLc2 hc hN hy hyl hsw hi (blkOk_by ok) hvs hg ht hi1 hg1 ht1 he hs hs1) fun Dn σ H h => ?_
  have h2 := set_read (m := .o) i ho (.inl ⟨rfl, hl, rfl⟩) h
  exact lc2_read hsub hsub1 hvs h2
end
end Pf

set_option Elab.async false
set_option linter.all false
set_option maxRecDepth 100000
set_option maxHeartbeats 4000000
namespace Pf
open PySem PySem.Spec PyProof.Rows L2

/-! ## <, <=, >, >= : ints, or data -/
def gLtA (d e : D) : Option D := match d, e with
  | .int i, .int j => some (.bl (decide (i < j)))
  | d, e => gLtD d e
def gLeA (d e : D) : Option D := match d, e with
  | .int i, .int j => some (.bl (decide (i ≤ j)))
  | d, e => gLeD d e
def gGtA (d e : D) : Option D := match d, e with
  | .int i, .int j => some (.bl (decide (j < i)))
  | d, e => gGtD d e
def gGeA (d e : D) : Option D := match d, e with
  | .int i, .int j => some (.bl (decide (j ≤ i)))
  | d, e => gGeD d e
def rOr (r r' : R2) : R2 := fun x y H Q => r x y H Q ∨ r' x y H Q
section
variable {X : Cx} {c : Ct} {own : List Ms} {m : Md} {W : WX} {a b : Expr} {A B : SX} {pos : Pos}
theorem cmpA_ok {f : Int → Int → Bool} {g : D → D → Option D} {r : R2} (hg : OpG r m c g) : OpG (rOr (rI0 fun i j => .bl (f i j)) r) m c (fun d e => match d, e with | .int i, .int j => some (.bl (f i j)) | d, e => g d e) := by
  intro Z H φ x y d e z W σ Q w rx ry h0 h
  have other : (g d e = some z) → rOr (rI0 fun i j => .bl (f i j)) r x y H Q := fun h1 => .inr (hg Z H φ x y d e z W σ Q w rx ry h1 h)
  cases d with
  | int i =>
    cases e with
    | int j => cases h0; exact .inl ⟨i, j, rx.int, ry.int, h.nowB w⟩
    | _ => exact other h0
  | _ => exact other h0
theorem gLtA_ok : OpG (rOr (rI0 fun i j => .bl (decide (i < j))) (rCmpD c.K fun d e => PySem.W.dataLt d e)) m c gLtA := cmpA_ok gLtD_ok
theorem gLeA_ok : OpG (rOr (rI0 fun i j => .bl (decide (i ≤ j))) (rCmpD c.K fun d e => !PySem.W.dataLt e d)) m c gLeA := cmpA_ok gLeD_ok
theorem gGtA_ok : OpG (rOr (rI0 fun i j => .bl (decide (j < i))) (rCmpD c.K fun d e => PySem.W.dataLt e d)) m c gGtA := cmpA_ok gGtD_ok
theorem gGeA_ok : OpG (rOr (rI0 fun i j => .bl (decide (j ≤ i))) (rCmpD c.K fun d e => !PySem.W.dataLt d e)) m c gGeA := cmpA_ok gGeD_ok
theorem op_ltA (hu : X.A.units + 64 < cLine) : OpR X (compareOp .Lt) (rOr (rI0 fun i j => .bl (decide (i < j))) (rCmpD X.K fun d e => PySem.W.dataLt d e)) := OpR.or op_lt (op_ltD hu)
theorem op_leA (hu : X.A.units + 64 < cLine) : OpR X (compareOp .LtE) (rOr (rI0 fun i j => .bl (decide (i ≤ j))) (rCmpD X.K fun d e => !PySem.W.dataLt e d)) := OpR.or op_le (op_leD hu)
theorem op_gtA (hu : X.A.units + 64 < cLine) : OpR X (compareOp .Gt) (rOr (rI0 fun i j => .bl (decide (j < i))) (rCmpD X.K fun d e => PySem.W.dataLt e d)) := OpR.or op_gt (op_gtD hu)
theorem op_geA (hu : X.A.units + 64 < cLine) : OpR X (compareOp .GtE) (rOr (rI0 fun i j => .bl (decide (j ≤ i))) (rCmpD X.K fun d e => !PySem.W.dataLt d e)) := OpR.or op_ge (op_geD hu)
theorem x_ltA (hK : X.K = c.K) (hu : X.A.units + 64 < cLine) (ha : EX X c own .p W a A) (hb : EX X c own .p W b B) : EX X c own .o W (.Compare a [.Lt] [b] pos) (eBin gLtA A B) := x_cmp (op_ltA hu) (by rw [hK]; exact gLtA_ok) ha hb (nomark _)
theorem x_leA (hK : X.K = c.K) (hu : X.A.units + 64 < cLine) (ha : EX X c own .p W a A) (hb : EX X c own .p W b B) : EX X c own .o W (.Compare a [.LtE] [b] pos) (eBin gLeA A B) := x_cmp (op_leA hu) (by rw [hK]; exact gLeA_ok) ha hb (nomark _)
theorem x_gtA (hK : X.K = c.K) (hu : X.A.units + 64 < cLine) (ha : EX X c own .p W a A) (hb : EX X c own .p W b B) : EX X c own .o W (.Compare a [.Gt] [b] pos) (eBin gGtA A B) := x_cmp (op_gtA hu) (by rw [hK]; exact gGtA_ok) ha hb (nomark _)
theorem x_geA (hK : X.K = c.K) (hu : X.A.units + 64 < cLine) (ha : EX X c own .p W a A) (hb : EX X c own .p W b B) : EX X c own .o W (.Compare a [.GtE] [b] pos) (eBin gGeA A B) := x_cmp (op_geA hu) (by rw [hK]; exact gGeA_ok) ha hb (nomark _)
theorem b_ltA (hK : X.K = c.K) (hu : X.A.units + 64 < cLine) (ha : EX X c own .p W a A) (hb : EX X c own .p W b B) : BX X c own W (.Compare a [.Lt] [b] pos) (bCmp gLtA A B) := b_cmp (op_ltA hu) (by rw [hK]; exact gLtA_ok) ha hb (nomark _)
theorem b_leA (hK : X.K = c.K) (hu : X.A.units + 64 < cLine) (ha : EX X c own .p W a A) (hb : EX X c own .p W b B) : BX X c own W (.Compare a [.LtE] [b] pos) (bCmp gLeA A B) := b_cmp (op_leA hu) (by rw [hK]; exact gLeA_ok) ha hb (nomark _)
theorem b_gtA (hK : X.K = c.K) (hu : X.A.units + 64 < cLine) (ha : EX X c own .p W a A) (hb : EX X c own .p W b B) : BX X c own W (.Compare a [.Gt] [b] pos) (bCmp gGtA A B) := b_cmp (op_gtA hu) (by rw [hK]; exact gGtA_ok) ha hb (nomark _)
theorem b_geA (hK : X.K = c.K) (hu : X.A.units + 64 < cLine) (ha : EX X c own .p W a A) (hb : EX X c own .p W b B) : BX X c own W (.Compare a [.GtE] [b] pos) (bCmp gGeA A B) := b_cmp (op_geA hu) (by rw [hK]; exact gGeA_ok) ha hb (nomark _)

/-! ## the built-ins by name -/
variable {e e2 : Expr} {p : Pos} {S : SA}
theorem x_len (hK : X.K = c.K) (hm : X.mg "len" = none) (ha : AX X c own .p W [e] S) (hg : Gl X "len" := by rfl) (he : starEach [e] X.env = (false, eval e X.env) :: starEach [] X.env := by rfl) (hpl : (backTo pos (starEach [] X.env)).any (·.1) = false := by rfl) :
    EX X c own .o W (.Call (.Name "len" p) [e] [] pos) (eCB gLen S) := x_callB call_len (by rw [hK]; exact gLen_ok) hm PySem.boot_len ha hg (by decide) (by decide) he hpl
theorem x_sum (hK : X.K = c.K) (hc : X.calm = true) (hm : X.mg "sum" = none) (ha : AX X c own .p W [e] S) (hg : Gl X "sum" := by rfl) (he : starEach [e] X.env = (false, eval e X.env) :: starEach [] X.env := by rfl) (hpl : (backTo pos (starEach [] X.env)).any (·.1) = false := by rfl) :
    EX X c own .o W (.Call (.Name "sum" p) [e] [] pos) (eCB gSum S) := x_callB (cr_sum hc) (by rw [hK]; exact gSum_ok) hm (by decide +kernel) ha hg (by decide) (by decide) he hpl
theorem x_any (hK : X.K = c.K) (hc : X.calm = true) (hm : X.mg "any" = none) (ha : AX X c own .p W [e] S) (hg : Gl X "any" := by rfl) (he : starEach [e] X.env = (false, eval e X.env) :: starEach [] X.env := by rfl) (hpl : (backTo pos (starEach [] X.env)).any (·.1) = false := by rfl) :
    EX X c own .o W (.Call (.Name "any" p) [e] [] pos) (eCB gAny S) := x_callB (cr_any hc) (by rw [hK]; exact gAny_ok) hm (by decide +kernel) ha hg (by decide) (by decide) he hpl
theorem x_all (hK : X.K = c.K) (hc : X.calm = true) (hm : X.mg "all" = none) (ha : AX X c own .p W [e] S) (hg : Gl X "all" := by rfl) (he : starEach [e] X.env = (false, eval e X.env) :: starEach [] X.env := by rfl) (hpl : (backTo pos (starEach [] X.env)).any (·.1) = false := by rfl) :
    EX X c own .o W (.Call (.Name "all" p) [e] [] pos) (eCB gAll S) := x_callB (cr_all hc) (by rw [hK]; exact gAll_ok) hm (by decide +kernel) ha hg (by decide) (by decide) he hpl
theorem x_max1 (hK : X.K = c.K) (hc : X.calm = true) (hm : X.mg "max" = none) (ha : AX X c own .p W [e] S) (hg : Gl X "max" := by rfl) (he : starEach [e] X.env = (false, eval e X.env) :: starEach [] X.env := by rfl) (hpl : (backTo pos (starEach [] X.env)).any (·.1) = false := by rfl) :
    EX X c own .o W (.Call (.Name "max" p) [e] [] pos) (eCB gMax1 S) := x_callB (cr_max hc) (by rw [hK]; exact gMax1_ok) hm (by decide +kernel) ha hg (by decide) (by decide) he hpl
theorem x_min1 (hK : X.K = c.K) (hc : X.calm = true) (hm : X.mg "min" = none) (ha : AX X c own .p W [e] S) (hg : Gl X "min" := by rfl) (he : starEach [e] X.env = (false, eval e X.env) :: starEach [] X.env := by rfl) (hpl : (backTo pos (starEach [] X.env)).any (·.1) = false := by rfl) :
    EX X c own .o W (.Call (.Name "min" p) [e] [] pos) (eCB gMin1 S) := x_callB (cr_min hc) (by rw [hK]; exact gMin1_ok) hm (by decide +kernel) ha hg (by decide) (by decide) he hpl
theorem x_max2 (hc : X.calm = true) (hm : X.mg "max" = none) (ha : AX X c own .p W [e, e2] S) (hg : Gl X "max" := by rfl) (he : starEach [e, e2] X.env = (false, eval e X.env) :: starEach [e2] X.env := by rfl) (hpl : (backTo pos (starEach [e2] X.env)).any (·.1) = false := by rfl) :
    EX X c own .o W (.Call (.Name "max" p) [e, e2] [] pos) (eCB gMax2 S) := x_callB (call_max2 hc) gMax2_ok hm (by decide +kernel) ha hg (by decide) (by decide) he hpl
theorem x_min2 (hc : X.calm = true) (hm : X.mg "min" = none) (ha : AX X c own .p W [e, e2] S) (hg : Gl X "min" := by rfl) (he : starEach [e, e2] X.env = (false, eval e X.env) :: starEach [e2] X.env := by rfl) (hpl : (backTo pos (starEach [e2] X.env)).any (·.1) = false := by rfl) :
    EX X c own .o W (.Call (.Name "min" p) [e, e2] [] pos) (eCB gMin2 S) := x_callB (call_min2 hc) gMin2_ok hm (by decide +kernel) ha hg (by decide) (by decide) he hpl
theorem x_abs (hm : X.mg "abs" = none) (ha : AX X c own .p W [e] S) (hg : Gl X "abs" := by rfl) (he : starEach [e] X.env = (false, eval e X.env) :: starEach [] X.env := by rfl) (hpl : (backTo pos (starEach [] X.env)).any (·.1) = false := by rfl) :
    EX X c own .o W (.Call (.Name "abs" p) [e] [] pos) (eCB gAbs S) := x_callB call_abs gAbs_ok hm (by decide +kernel) ha hg (by decide) (by decide) he hpl
theorem x_list (hK : X.K = c.K) (hm : X.mg "list" = none) (ha : AX X c own .p W [e] S) (hg : Gl X "list" := by rfl) (he : starEach [e] X.env = (false, eval e X.env) :: starEach [] X.env := by rfl) (hpl : (backTo pos (starEach [] X.env)).any (·.1) = false := by rfl) :
    EX X c own .o W (.Call (.Name "list" p) [e] [] pos) (eCB gList S) := x_callT call_list_of (by rw [hK]; exact gList_ok) hm (by decide +kernel) ha hg (by decide) (by decide) he hpl
theorem x_tuple (hK : X.K = c.K) (hm : X.mg "tuple" = none) (ha : AX X c own .p W [e] S) (hg : Gl X "tuple" := by rfl) (he : starEach [e] X.env = (false, eval e X.env) :: starEach [] X.env := by rfl) (hpl : (backTo pos (starEach [] X.env)).any (·.1) = false := by rfl) :
    EX X c own .o W (.Call (.Name "tuple" p) [e] [] pos) (eCB gTuple S) := x_callT call_tuple_of (by rw [hK]; exact gTuple_ok) hm (by decide +kernel) ha hg (by decide) (by decide) he hpl
theorem x_int1 (hm : X.mg "int" = none) (ha : AX X c own .p W [e] S) (hg : Gl X "int" := by rfl) (he : starEach [e] X.env = (false, eval e X.env) :: starEach [] X.env := by rfl) (hpl : (backTo pos (starEach [] X.env)).any (·.1) = false := by rfl) :
    EX X c own .o W (.Call (.Name "int" p) [e] [] pos) (eCB gInt S) := x_callT call_int1 gInt_ok hm (by decide +kernel) ha hg (by decide) (by decide) he hpl
theorem x_sorted (hK : X.K = c.K) (hu : X.A.units + 66 < cLine) (hm : X.mg "sorted" = none) (ha : AX X c own .p W [e] S) (hg : Gl X "sorted" := by rfl) (he : starEach [e] X.env = (false, eval e X.env) :: starEach [] X.env := by rfl) (hpl : (backTo pos (starEach [] X.env)).any (·.1) = false := by rfl) :
    EX X c own .o W (.Call (.Name "sorted" p) [e] [] pos) (eCB gSorted S) := x_callB (cr_sortedD hu) (by rw [hK]; exact gSorted_ok) hm (by decide +kernel) ha hg (by decide) (by decide) he hpl
end
theorem hu64 {k : Nat} {A : Around} (r : Room k A) : A.units + 64 < cLine := r.units
theorem hu65 {k : Nat} {A : Around} (r : Room k A) : A.units + 65 < cLine := by have := r.un; omega
theorem hu66 {k : Nat} {A : Around} (r : Room k A) : A.units + 66 < cLine := by have := r.un; omega
end Pf

set_option Elab.async false
set_option linter.all false
set_option maxRecDepth 100000
set_option maxHeartbeats 4000000
namespace Pf
open PySem PySem.Spec PyProof.Rows L2

/-! ## what is looked at with more frozen than stays frozen: answers that are flat -/
theorem Wf.back {K : PySem.W.Frag} {f : Addr} {Z Z1 Z' H H' : Hp} {φ φ1 : Fd} (w : Wf K f Z H φ) (k : Sub Z Z1) (e : Ext f Z1 H Z' H') (w' : Wf K f Z' H' φ1) : Ext f Z H Z H' ∧ Wf K f Z H' φ1 := by
  refine ⟨⟨fun _ _ q => q, e.h, e.k, fun _ _ q => q, e.d⟩, ⟨fun a o q => e.h a o (fun z => by rw [z, w.zf] at q; cases q) (w.sub a o q), w.zf, ?_, w'.ok⟩⟩
  obtain ⟨s, h1, h2⟩ := w.feed
  obtain ⟨s', h1', h2'⟩ := w'.feed
  obtain ⟨us, h3⟩ := e.d _ _ h2
  rw [h2'] at h3
  cases h3
  refine ⟨s, ?_, h2'⟩
  have h4 := e.z _ _ (k _ _ h1)
  rw [h4] at h1'
  rw [h1, Option.some.inj h1']
def bStill (A : SB) : SB := fun ρ φ => (A ρ φ).still
def D.flatB : D → Bool
  | .non => true
  | .bl _ => true
  | .int _ => true
  | .str _ => true
  | _ => false
def eStill (A : SX) : SX := fun ρ φ => match A ρ φ with
  | .ok d φ1 => if d.flatB = true then .ok d φ1 else .bad
  | _ => .bad
theorem Rep.flatB {K : PySem.W.Frag} {f : Addr} {Z Z' : Hp} {v : V} {d : D} (r : Rep K f Z v d) (h : d.flatB = true) : Rep K f Z' v d := by
  cases r with
  | non => exact .non
  | bl b => exact .bl b
  | int b => exact .int b
  | str b => exact .str b
  | cel _ q => cases q <;> cases h
  | tup _ _ => cases h
  | feed => cases h
theorem D.flatB_mt {d : D} (h : d.flatB = true) : d.mt = false := by cases d <;> first | rfl | cases h
section
variable {X : Cx} {c : Ct} {own : List Ms} {m : Md} {W : WX}
theorem b_scope (is : List Nat) (hp : ∀ i ∈ is, own[i]? ≠ some .p) {e : Expr} {A : SB} (h : BX X c (is.foldr (fun i o => o.set i .s) own) W0 e A) : BX X c own W e (bStill A) := by
  refine PT.weak h ?_
  rintro σ H Q ⟨Z, ρ, φ, R, h⟩
  obtain ⟨Z1, k, R1⟩ := R.frzs is hp
  refine ⟨Z1, ρ, φ, R1, ?_⟩
  unfold bStill at h
  cases hA : A ρ φ with
  | bad => rw [hA] at h; exact h.elim
  | ex _ _ _ => rw [hA] at h; exact h.elim
  | ok b φ1 =>
    rw [hA] at h
    intro Z' H' e' w'
    obtain ⟨e2, w2⟩ := R.wf.back k e' w'
    exact h Z H' e2 w2
theorem x_scope (is : List Nat) (hp : ∀ i ∈ is, own[i]? ≠ some .p) {e : Expr} {A : SX} {m' : Md} (h : EX X c (is.foldr (fun i o => o.set i .s) own) m' W0 e A) : EX X c own m W e (eStill A) := by
  refine PE.weak h ?_
  rintro σ H Q ⟨Z, ρ, φ, R, h⟩
  obtain ⟨Z1, k, R1⟩ := R.frzs is hp
  refine ⟨Z1, ρ, φ, R1, ?_⟩
  unfold eStill at h
  cases hA : A ρ φ with
  | bad => rw [hA] at h; exact h.elim
  | ex _ _ _ => rw [hA] at h; exact h.elim
  | ok d φ1 =>
    rw [hA] at h
    intro v Z' H' e' w' r
    have h' : Post c m W (if d.flatB = true then .ok d φ1 else .bad) σ Z H Q := h
    by_cases hf : d.flatB = true
    · rw [if_pos hf] at h'
      obtain ⟨e2, w2⟩ := R.wf.back k e' w'
      exact h' v Z H' e2 w2 (Res.of_flat ((r.flat (D.flatB_mt hf)).flatB hf) (D.flatB_mt hf))
    · rw [if_neg hf] at h'
      exact h'.elim
end

/-! ## the law's own feed; a def that calls itself -/
section
variable {P : Program} {w : World} {K : PySem.W.Frag} {mg : Str → Option Value} {base : Heap}
theorem feed_read {vs : List V} {H : Hp} {Q : VK} {E : XK} (h : spFeed K vs H Q E) :
    tSeq (tRet (tLst (tCons (tCB (fun xs H Q => ∃ p ys, xs = [.ref p] ∧ (SqL K H p ys ∨ SqT K H p ys) ∧ ∀ l, H l = none → Q (.ref l) (upd H l (.lst ys))) (tCons (tVar 0) tNil)) (tCons (tC (.int 0)) (tCons (tC (.int 0)) (tCons (tC (.int 1)) tNil)))))) tNext { nx := fun _ H' => Q .non H', rt := Q } (L2.start ["script"] vs) H := by
  obtain ⟨a, ns, rfl, hs, q⟩ := h
  refine ⟨.ref a, rfl, a, ns.map V.int, rfl, .inl hs, fun l hl => ?_⟩
  refine ⟨show 4 ≤ sizeLine by decide, fun p hp => ?_⟩
  have hpl : p ≠ l := fun e => by rw [e, upd_same] at hp; cases hp
  rw [upd_ne hpl] at hp
  exact q l p hl hp hpl
/-- at the bottom of a recursion -/
theorem fn_bad {cls : Str → Option (Addr × List Str)} {f : Addr} {fd : FuncData} {ps : List Str} {k : Nat} {pm : List Bool} (m : Md) : FnOk P w K mg base (L2.CX P w) k f fd ps (spF cls K pm m fun _ _ => .bad) :=
  have no : ∀ {vs : List V} {H : Hp} {Q : VK} {E : XK}, spF cls K pm m (fun _ _ => .bad) vs H Q E → False := fun h => by
    obtain ⟨f, Z, ds, φ, _, rs, h⟩ := h
    exact h
  ⟨fun _ _ _ _ h => (no h).elim, fun _ _ _ _ _ _ _ _ _ _ _ _ _ h => (no h).elim⟩
end

/-! ## a part of a body as a body of its own: what stood ahead is only looked at; behind it, what the part has made is forgotten, but for flat data -/
def subC (c : Ct) (Z : Hp) (ρ : En) (σ : L2.St) (H : Hp) : Ct := ⟨c.K, c.f, Z, H, c.cls, σ, ρ⟩
def Ms.inn : Ms → Ms
  | .o => .p
  | .p => .p
  | .s => .r
  | .r => .r
def Ms.pin : Option Ms → Bool
  | some .p => true
  | some .r => true
  | _ => false
def ownIn (own : List Ms) : List Ms := own.map Ms.inn
def ownOut (own own1 : List Ms) : List Ms := own.mapIdx fun i m => if Ms.pin own1[i]? = true then m else .s
def flatO : Option D → Option D
  | some d => if d.flatB = true then some d else none
  | none => none
def enOut (own1 : List Ms) (ρ : En) : En := ρ.mapIdx fun i x => if Ms.pin own1[i]? = true then x else flatO x
theorem pin_iff {x : Option Ms} : Ms.pin x = true ↔ x = some .p ∨ x = some .r := by
  rcases x with _ | (_ | _ | _ | _) <;> simp [Ms.pin]
theorem Rl.enter {c : Ct} {own : List Ms} {Z : Hp} {ρ : En} {φ : Fd} {σ : L2.St} {H : Hp} (R : Rl c own Z ρ φ σ H) : Rl (subC c Z ρ σ H) (ownIn own) Z ρ φ σ H := by
  have get : ∀ {i : Nat} {x : Ms}, (ownIn own)[i]? = some x → ∃ y, own[i]? = some y ∧ x = y.inn := fun {i x} h => by
    unfold ownIn at h
    rw [List.getElem?_map] at h
    cases e : own[i]? with
    | none => rw [e] at h; cases h
    | some y => rw [e] at h; cases h; exact ⟨y, rfl, rfl⟩
  have put : ∀ {i : Nat} {y : Ms}, own[i]? = some y → (ownIn own)[i]? = some y.inn := fun {i y} h => by
    unfold ownIn
    rw [List.getElem?_map, h] <;> rfl
  have no : ∀ {i : Nat}, (ownIn own)[i]? ≠ some .o := fun {i} h => by
    obtain ⟨y, _, e⟩ := get h
    cases y <;> cases e
  refine ⟨R.wf, Ext.refl, R.len, fun i d h1 _ h3 => ?_, fun i d _ h2 => absurd h2 no, fun i j a d e _ h1 => absurd h1 no, fun i d h1 _ => ⟨h1, rfl⟩, fun i d h1 _ => R.look h1⟩
  exact R.sh i d h1 (fun e => h3 (put e)) (fun e => h3 (put e))
theorem Rl.leave {c : Ct} {own own1 : List Ms} {Z0 Z1 : Hp} {ρ0 ρ1 : En} {φ0 φ1 : Fd} {σ0 σ1 : L2.St} {H0 H1 : Hp} (R0 : Rl c own Z0 ρ0 φ0 σ0 H0) (R1 : Rl (subC c Z0 ρ0 σ0 H0) own1 Z1 ρ1 φ1 σ1 H1) :
    Rl c (ownOut own own1) Z0 (enOut own1 ρ1) φ1 σ1 H1 := by
  obtain ⟨e2, w2⟩ := R0.wf.back Sub.refl R1.ext R1.wf
  have getE : ∀ {i : Nat} {d : D}, (enOut own1 ρ1)[i]? = some (some d) → ρ1[i]? = some (some d) ∧ (Ms.pin own1[i]? = true ∨ (Ms.pin own1[i]? = false ∧ d.flatB = true)) := fun {i d} h => by
    unfold enOut at h
    rw [List.getElem?_mapIdx] at h
    cases e : ρ1[i]? with
    | none => rw [e] at h; cases h
    | some x =>
      rw [e] at h
      have h' : (if Ms.pin own1[i]? = true then x else flatO x) = some d := Option.some.inj h
      by_cases hp : Ms.pin own1[i]? = true
      · rw [if_pos hp] at h'
        rw [h']
        exact ⟨rfl, .inl hp⟩
      · rw [if_neg hp] at h'
        cases x with
        | none => cases h'
        | some y =>
          have h'' : (if y.flatB = true then some y else none) = some d := h'
          by_cases hf : y.flatB = true
          · rw [if_pos hf] at h''
            cases h''
            exact ⟨rfl, .inr ⟨by simpa using hp, hf⟩⟩
          · rw [if_neg hf] at h''; cases h''
  have getO : ∀ {i : Nat} {x : Ms}, (ownOut own own1)[i]? = some x → (Ms.pin own1[i]? = true ∧ own[i]? = some x) ∨ (Ms.pin own1[i]? = false ∧ x = .s) := fun {i x} h => by
    unfold ownOut at h
    rw [List.getElem?_mapIdx] at h
    cases e : own[i]? with
    | none => rw [e] at h; cases h
    | some y =>
      rw [e] at h
      have h' : (if Ms.pin own1[i]? = true then y else .s) = x := Option.some.inj h
      by_cases hp : Ms.pin own1[i]? = true
      · rw [if_pos hp] at h'; exact .inl ⟨hp, by rw [h']⟩
      · rw [if_neg hp] at h'; exact .inr ⟨by simpa using hp, h'.symm⟩
  have putO : ∀ {i : Nat} {x : Ms}, Ms.pin own1[i]? = true → own[i]? = some x → (ownOut own own1)[i]? = some x := fun {i x} hp h => by
    unfold ownOut
    rw [List.getElem?_mapIdx, h]
    show some (if Ms.pin own1[i]? = true then x else .s) = some x
    rw [if_pos hp]
  have pins : ∀ {i : Nat} {d : D}, Ms.pin own1[i]? = true → ρ1[i]? = some (some d) → ρ0[i]? = some (some d) ∧ σ1[i]? = σ0[i]? := fun {i d} hp h => R1.pn i d h (pin_iff.mp hp)
  refine ⟨w2, R0.ext.trans e2, ?_, fun i d h1 h2 h3 => ?_, fun i d h1 h2 => ?_, fun i j a d e hij h1 h2 h3 h4 h5 h6 h7 h8 => ?_, fun i d h1 h2 => ?_, fun i d h1 h2 => ?_⟩
  · unfold enOut
    rw [List.length_mapIdx]
    exact R1.len
  · obtain ⟨g1, g2⟩ := getE h1
    rcases g2 with hp | ⟨hp, hf⟩
    · obtain ⟨k1, k2⟩ := pins hp g1
      obtain ⟨v, hv, r⟩ := R0.sh i d k1 (fun e => h2 (putO hp e)) (fun e => h3 (putO hp e))
      exact ⟨v, by rw [k2]; exact hv, r⟩
    · by_cases ho : own1[i]? = some .o
      · obtain ⟨v, hv, r⟩ := R1.ow i d g1 ho
        exact ⟨v, hv, (r.flat (D.flatB_mt hf)).flatB hf⟩
      · have hpp : own1[i]? ≠ some .p := fun e => by rw [e] at hp; cases hp
        obtain ⟨v, hv, r⟩ := R1.sh i d g1 ho hpp
        exact ⟨v, hv, r.flatB hf⟩
  · rcases getO h2 with ⟨hp, ho⟩ | ⟨_, e⟩
    · obtain ⟨g1, _⟩ := getE h1
      obtain ⟨k1, k2⟩ := pins hp g1
      obtain ⟨v, hv, r⟩ := R0.ow i d k1 ho
      exact ⟨v, by rw [k2]; exact hv, r.mono e2⟩
    · cases e
  · rcases getO h1 with ⟨hp, ho⟩ | ⟨_, q⟩
    · rcases getO h2 with ⟨hp', ho'⟩ | ⟨_, q⟩
      · obtain ⟨k1, k2⟩ := pins hp (getE h3).1
        obtain ⟨k3, k4⟩ := pins hp' (getE h5).1
        rw [k2] at h7
        rw [k4] at h8
        exact R0.ne i j a d e hij ho ho' k1 h4 k3 h6 h7 h8
      · cases q
    · cases q
  · obtain ⟨g1, _⟩ := getE h1
    have hh : Ms.pin own1[i]? = true ∧ (own[i]? = some .p ∨ own[i]? = some .r) := by
      rcases h2 with h2 | h2 <;> rcases getO h2 with ⟨hp, ho⟩ | ⟨_, q⟩
      · exact ⟨hp, .inl ho⟩
      · cases q
      · exact ⟨hp, .inr ho⟩
      · cases q
    obtain ⟨k1, k2⟩ := pins hh.1 g1
    obtain ⟨n1, n2⟩ := R0.pn i d k1 hh.2
    exact ⟨n1, by rw [k2]; exact n2⟩
  · rcases getO h2 with ⟨hp, ho⟩ | ⟨_, q⟩
    · obtain ⟨g1, _⟩ := getE h1
      obtain ⟨k1, k2⟩ := pins hp g1
      obtain ⟨v, hv, r⟩ := R0.pk i d k1 ho
      exact ⟨v, by rw [k2]; exact hv, r⟩
    · cases q
theorem execs_app {env : Env} : ∀ (a b : List Stmt), execs (a ++ b) env = (do match ← execs a env with | .next => execs b env | f => pure f)
  | [], b => by
    show execs b env = _
    rw [show execs [] env = pure Flow.next from rfl, pure_bind]
  | st :: a, b => by
    rw [List.cons_append, execs_cons, execs_cons, bind_assoc]
    refine congrArg (bind _) (funext fun f => ?_)
    cases f with
    | next => exact execs_app a b
    | _ => rw [pure_bind]
theorem pss_app {X : Cx} {a b : List Stmt} {t u : TS} (h1 : PSs X a t) (h2 : PSs X b u) : PSs X (a ++ b) (tSeq t u) := by
  refine ⟨fun pins s σ H D I h => ?_⟩
  rw [execs_app]
  refine wpAny_bind (thn (h1.run pins s σ H { D with nx := u D } I h) fun f s1 q => ?_)
  cases f with
  | next =>
    obtain ⟨σ', H', I', q⟩ := q
    exact h2.run pins s1 σ' H' D I' q
  | ret v => exact wpAny_pure q
  | brk => exact wpAny_pure q
  | cont => exact wpAny_pure q
def sScope (own1 : List Ms) (A B : SS) : SS := fun ρ φ => match A ρ φ with
  | .nx ρ1 φ1 => B (enOut own1 ρ1) φ1
  | .rt d φ1 => .rt d φ1
  | _ => .bad
section
variable {X : Cx} {c : Ct} {w : Ow} {own own1 on : List Ms}
theorem s_scope (n : Nat) {sts : List Stmt} {A B : SS} (h1 : ∀ (Z : Hp) (ρ : En) (σ : L2.St) (H : Hp), SJs X (subC c Z ρ σ H) ⟨w.m, W0, fun _ => True, []⟩ (ownIn own) own1 (sts.take n) A) (h2 : SJs X c w (ownOut own own1) on (sts.drop n) B) :
    SJs X c w own on sts (sScope own1 A B) := by
  have D1 := PSs.later (ι := Hp × En × L2.St × Hp) fun i => h1 i.1 i.2.1 i.2.2.1 i.2.2.2
  have D2 := pss_app D1 h2
  rw [List.take_append_drop] at D2
  refine PSs.weak D2 ?_
  rintro Dn σ H ⟨Z, ρ, φ, R0, h⟩
  refine ⟨(Z, ρ, σ, H), Z, ρ, φ, R0.enter, ?_⟩
  unfold sScope at h
  cases hA : A ρ φ with
  | nx ρ1 φ1 =>
    rw [hA] at h
    intro σ1 Z1 H1 k R1
    exact ⟨Z, enOut own1 ρ1, φ1, R0.leave R1, h⟩
  | rt d φ1 =>
    rw [hA] at h
    intro v Z' H' e' w' r
    exact h v Z' H' (R0.ext.trans e') w' (Res.start r R0.ext.k)
  | bk _ _ => rw [hA] at h; exact h.elim
  | ct _ _ => rw [hA] at h; exact h.elim
  | ex _ _ _ _ => rw [hA] at h; exact h.elim
  | bad => rw [hA] at h; exact h.elim
end
end Pf

set_option Elab.async false
set_option linter.all false
set_option maxRecDepth 100000
set_option maxHeartbeats 4000000

/-! ## max and min of two things that are compared as data -/
namespace PySem.W
open PySem PyProof.Rows
section
variable {prog : Program} {w : World} {A : Around} {E : Value → Shared → Prop} {s : Shared}
theorem call_max_twoH {a b : Value} {d e : PyData} {as bs : List Addr} {Q : Value → Shared → Prop} (hh : A.handled = none) (ra : Reads s.heap a d as) (rb : Reads s.heap b e bs)
    (al : AlikeAll [d, e]) (hu : A.units + 1 + PyData.depthAll [d, e] < cLine)
    (h : ∀ h' tk, (∀ c o, s.heap.get? c = some o → h'.get? c = some o) → Q (if dataLt d e then b else a) { s with heap := h', toks := tk }) :
    wpAny (model prog w) A (call (.builtin "max") [a, b]) Q E s := by
  have hname : (toString "max" ++ toString ".loop" : String) = "max.loop" := by decide
  have hT : (s.heap.push { cls := .type "tuple", data := .seq #[a, b] }).IsTuple s.heap.objs.size #[a, b] := ⟨_, Heap.get?_push_size _ rfl, rfl, 0, rfl⟩
  have old : ∀ c o, s.heap.get? c = some o → (s.heap.push { cls := .type "tuple", data := .seq #[a, b] }).get? c = some o := fun c o e => Heap.get?_push_of_some _ e
  have hr : ReadsAll (s.heap.push { cls := .type "tuple", data := .seq #[a, b] }) [a, b] [d, e] (as ++ (bs ++ [])) := .cons (reads_keeps old ra) (.cons (reads_keeps old rb) .nil)
  refine call_function_tree F.kind_max F.plain_max F.entry_max (F.args_max2 _ _) ?_
  show wpAny _ A.in1 (Builtin.Builtins.bindParams "max" ["key", "default"] 0 ⟨[], []⟩ >>= _) _ _ s
  refine wpAny_bind (wpAny_of_eq (show Builtin.Builtins.bindParams "max" ["key", "default"] 0 ⟨[], []⟩ = pure [none, none] from rfl) ?_)
  show wpAny _ A.in1 (newTuple [a, b] >>= _) _ _ s
  refine wpAny_bind (wpAny_newObj_type ?_)
  refine wpAny_bind (iter_tupleW (A := A.in1) hh hT fun s₂ e2 W hst hfp hw hk => ?_)
  refine wpAny_bind (wpAny_newObj_type ?_)
  have hSf : s₂.heap.objs.size ∉ _ := fun hm => Nat.lt_irrefl _ (hfp _ hm)
  rw [hname]
  refine wpAny_pure ⟨plainId_quiet F.plain_max_loop _, codeAny_max_loop_firstH W _ hw _ (cmpIn_gt (A := A.in1) hr al (by show A.units + 1 + _ < _; exact hu)) s₂.heap.objs.size hSf (fresh_in hk) _ (show 0 < 2 by decide) (fun b o e => Heap.get?_push_of_some _ (hk b o e)) (W.frame 0 s₂ _ s₂.toks hst (Nat.le_refl _) fun b _ o e => Heap.get?_push_of_some _ e) (Heap.get?_push_size _ rfl) fun v s' hP hm => ?_⟩
  obtain ⟨h', tk, rfl, hk'⟩ := moved_old e2 rfl (Moved.drop_new (tk := s₂.toks) hm (Nat.le_refl _))
  have hv : v = if dataLt d e then b else a := by
    cases hc : dataLt d e <;> simp [argBest, hc] at hP <;> simp [hP]
  rw [hv]
  exact h h' tk fun c o e => hk' c o (old c o e)
end
end PySem.W

namespace Pf
open PySem PySem.Spec PyProof.Rows L2
section
variable {X : Cx} {c : Ct} {own : List Ms} {m : Md} {W : WX} {a b : Expr} {A B : SX} {pos : Pos}
def alk2 (d e : PyData) : Bool := PySem.W.alike d d && PySem.W.alike d e && PySem.W.alike e d && PySem.W.alike e e
def rMax2D (K : PySem.W.Frag) : List V → Hp → VK → Prop := fun xs H Q => ∃ x y d e, xs = [x, y] ∧ Dp K H x d ∧ Dp K H y e ∧ alk2 d e = true ∧ SeqAt.shaped d = true ∧ SeqAt.shaped e = true ∧ d ≠ .none ∧ e ≠ .none ∧ Q (if PySem.W.dataLt d e then y else x) H
theorem alk2_ok {d e : PyData} (h : alk2 d e = true) (h1 : d ≠ .none) (h2 : e ≠ .none) : PySem.W.AlikeAll [d, e] := by
  unfold alk2 at h
  simp only [Bool.and_eq_true] at h
  obtain ⟨⟨⟨a1, a2⟩, a3⟩, a4⟩ := h
  refine ⟨fun x hx y hy => ?_, fun x hx => ?_⟩
  · rcases List.mem_cons.mp hx with rfl | hx
    · rcases List.mem_cons.mp hy with rfl | hy
      · exact a1
      · rw [List.mem_singleton.mp hy]; exact a2
    · rw [List.mem_singleton.mp hx]
      rcases List.mem_cons.mp hy with rfl | hy
      · exact a3
      · rw [List.mem_singleton.mp hy]; exact a4
  · rcases List.mem_cons.mp hx with rfl | hx
    · exact h1
    · rw [List.mem_singleton.mp hx]; exact h2
theorem shaped_dep {d : PyData} (h : SeqAt.shaped d = true) : d.depth ≤ 64 := by
  unfold SeqAt.shaped at h
  rw [Bool.and_eq_true, decide_eq_true_eq] at h
  exact h.2
theorem call_max2D (hc : X.calm = true) (hu : X.A.units + 66 < cLine) : CallR X (.builtin "max") (rMax2D X.K) := by
  intro pins s σ H xs us Q I r h
  obtain ⟨x, y, d, e, rfl, hd, he, al, sd, se, n1, n2, q⟩ := h
  obtain ⟨u, w', rfl, rx, ry⟩ := vals2 r
  obtain ⟨as, r1⟩ := Dp.reads I d x u hd rx
  obtain ⟨bs, r2⟩ := Dp.reads I e y w' he ry
  have hdep : PyData.depthAll [d, e] ≤ 64 := by
    simp only [PyData.depthAll]
    have := shaped_dep sd
    have := shaped_dep se
    omega
  refine PySem.W.call_max_twoH (I.ok.hd hc) r1 r2 (alk2_ok al n1 n2) (by omega) fun h' tk k => ⟨_, H, I.kept k, ?_, q⟩
  cases PySem.W.dataLt d e with
  | true => rw [if_pos rfl, if_pos rfl]; exact ry
  | false => rw [if_neg Bool.false_ne_true, if_neg Bool.false_ne_true]; exact rx
/-! built-ins that hand on what they are given -/
def CallGS (r : List V → Hp → VK → Prop) (m : Md) (c : Ct) (g : List D → Option D) : Prop :=
  ∀ (Z H : Hp) (φ : Fd) (xs : List V) (ds : List D) (z : D) (W : WX) (σ : L2.St) (Q : VK), Wf c.K c.f Z H φ → RAll .s c.K c.f H Z H xs ds → g ds = some z → Post c m W (.ok z φ) σ Z H Q → r xs H Q
theorem cb_coreS {r : List V → Hp → VK → Prop} {g : List D → Option D} {A : SA} (hg : CallGS r m c g) {σ : L2.St} {H : Hp} {Q : VK} (h : tE c own m W (eCB g A) σ H Q) : tCB r (tA c own .s W A) σ H Q := by
  obtain ⟨Z, ρ, φ, R, h⟩ := h
  refine ⟨Z, ρ, φ, R, PostA.bindE h fun ds φ1 xs Z1 H1 e1 w1 r1 h1 => ?_⟩
  obtain ⟨z, hz, h3⟩ := ofO_ok (E := fun o => Post c m W o σ Z1 H1 Q) h1 fun z => z
  exact hg Z1 H1 φ1 xs ds z W σ Q w1 (r1.any (by decide)) hz h3
theorem x_callBS {id : String} {r : List V → Hp → VK → Prop} {g : List D → Option D} {x : Str} {p : Pos} {e : Expr} {es : List Expr} {A : SA} (hc : CallR X (.builtin id) r) (hG : CallGS r m c g) (hm : X.mg x = none) (hv : bootBuiltins x = some (.builtin id)) (ha : AX X c own .s W (e :: es) A)
    (hg : Gl X x := by rfl) (hn : x ≠ "__name__" := by decide) (hdb : (x == ("__debug__" : Str)) = false := by decide)
    (he : starEach (e :: es) X.env = (false, eval e X.env) :: starEach es X.env := by rfl) (hpl : (backTo pos (starEach es X.env)).any (·.1) = false := by rfl) : EX X c own m W (.Call (.Name x p) (e :: es) [] pos) (eCB g A) :=
  PE.weak (pe_callB hc hg hm hv ha hn hdb he hpl) fun _ _ _ h => cb_coreS hG h
def gMax2D : List D → Option D
  | [d, e] => if alk2 d.py e.py && d.shp && e.shp && okLt d e && okLt e d then some (if ltD d e then e else d) else none
  | _ => none
theorem gMax2D_ok : CallGS (rMax2D c.K) .s c gMax2D := by
  intro Z H φ xs ds z W σ Q w r hg h
  match ds, hg, r with
  | [d, e], hg, r =>
    obtain ⟨hs, rfl⟩ := ifs hg
    simp only [Bool.and_eq_true] at hs
    obtain ⟨⟨⟨⟨h1, h2⟩, h3⟩, h4⟩, h5⟩ := hs
    obtain ⟨x, y, rfl, rx, ry⟩ := r.two'
    have k1 := okLt_ok h4
    have k2 := okLt_ok h5
    refine ⟨x, y, d.py, e.py, rfl, ?_, ?_, h1, h2, h3, k1.2.2.2, k2.2.2.2, ?_⟩
    · exact (show Res .p c.K c.f H Z H x d from .inl rx).dp w (SeqAt.canLay_of_shaped h2)
    · exact (show Res .p c.K c.f H Z H y e from .inl ry).dp w (SeqAt.canLay_of_shaped h3)
    · have : PySem.W.dataLt d.py e.py = ltD d e := rfl
      rw [this]
      by_cases hc : ltD d e = true
      · rw [if_pos hc] at h ⊢; exact h.now w ry
      · rw [if_neg hc] at h ⊢; exact h.now w rx
theorem x_max2S {e e2 : Expr} {p : Pos} {S : SA} (hK : X.K = c.K) (hc : X.calm = true) (hu : X.A.units + 66 < cLine) (hm : X.mg "max" = none) (ha : AX X c own .s W [e, e2] S) (hg : Gl X "max" := by rfl) (he : starEach [e, e2] X.env = (false, eval e X.env) :: starEach [e2] X.env := by rfl) (hpl : (backTo pos (starEach [e2] X.env)).any (·.1) = false := by rfl) :
    EX X c own .s W (.Call (.Name "max" p) [e, e2] [] pos) (eCB gMax2D S) := x_callBS (call_max2D hc hu) (by rw [hK]; exact gMax2D_ok) hm (by decide +kernel) ha hg (by decide) (by decide) he hpl
end
end Pf

set_option Elab.async false
set_option linter.all false
set_option maxRecDepth 100000
set_option maxHeartbeats 4000000
namespace Pf
open PySem PySem.Spec PyProof.Rows L2

/-! ## dicts whose keys are ints and texts -/
def valD (l : List (Key × D)) (k : Key) : Option D := (l.find? fun kv => decide (kv.1 = k)).map (·.2)
def putD (l : List (Key × D)) (k : Key) (v : D) : List (Key × D) :=
  if (l.any fun kv => decide (kv.1 = k)) = true then l.map (fun kv => if kv.1 = k then (kv.1, v) else kv) else l ++ [(k, v)]
def mergeD (l more : List (Key × D)) : List (Key × D) := more.foldl (fun acc kv => putD acc kv.1 kv.2) l
def keyD : D → Option Key
  | .int i => some (.inl i)
  | .str x => some (.inr x)
  | _ => none
section
variable {K : PySem.W.Frag} {f : Addr} {Z : Hp}
theorem KReps.length : ∀ {v : List (Key × V)} {d : List (Key × D)}, KReps K f Z v d → v.length = d.length
  | _, _, .nil => rfl
  | _, _, .cons _ s => by simp [s.length]
theorem KReps.app : ∀ {v v' : List (Key × V)} {d d' : List (Key × D)}, KReps K f Z v d → KReps K f Z v' d' → KReps K f Z (v ++ v') (d ++ d')
  | _, _, _, _, .nil, s => s
  | _, _, _, _, .cons r t, s => .cons r (t.app s)
theorem KReps.hit : ∀ {v : List (Key × V)} {d : List (Key × D)} {k : Key} {z : D}, KReps K f Z v d → valD d k = some z → ∃ y, valV v k = some y ∧ Rep K f Z y z
  | _, _, k, z, .nil, e => by cases e
  | _, _, k, z, .cons (k := k0) (v := y0) (d := d0) (r := r) (s := s) q t, e => by
    by_cases h : k0 = k
    · have e1 : valD ((k0, d0) :: s) k = some d0 := by simp [valD, h]
      rw [e1] at e
      cases e
      exact ⟨y0, valV_pos (p := (k0, y0)) h, q⟩
    · have e1 : valD ((k0, d0) :: s) k = valD s k := by simp [valD, h]
      rw [e1] at e
      obtain ⟨y, h1, h2⟩ := KReps.hit (k := k) (z := z) t e
      exact ⟨y, by rw [valV_neg (p := (k0, y0)) h]; exact h1, h2⟩
theorem KReps.miss : ∀ {v : List (Key × V)} {d : List (Key × D)} {k : Key}, KReps K f Z v d → valD d k = none → valV v k = none
  | _, _, k, .nil, e => rfl
  | _, _, k, .cons (k := k0) (v := y0) (d := d0) (r := r) (s := s) q t, e => by
    by_cases h : k0 = k
    · have e1 : valD ((k0, d0) :: s) k = some d0 := by simp [valD, h]
      rw [e1] at e
      cases e
    · have e1 : valD ((k0, d0) :: s) k = valD s k := by simp [valD, h]
      rw [e1] at e
      rw [valV_neg (p := (k0, y0)) h]
      exact KReps.miss t e
theorem KReps.any : ∀ {v : List (Key × V)} {d : List (Key × D)} (k : Key), KReps K f Z v d → (v.any fun kv => decide (kv.1 = k)) = d.any fun kv => decide (kv.1 = k)
  | _, _, _, .nil => rfl
  | _, _, k, .cons (r := r) (s := s) q t => by rw [List.any_cons, List.any_cons, KReps.any k t]
theorem KReps.over {y : V} {x : D} {k : Key} (h : Rep K f Z y x) : ∀ {v : List (Key × V)} {d : List (Key × D)}, KReps K f Z v d → KReps K f Z (v.map fun kv => if kv.1 = k then (kv.1, y) else kv) (d.map fun kv => if kv.1 = k then (kv.1, x) else kv)
  | _, _, .nil => .nil
  | _, _, .cons (k := k0) (v := y0) (d := d0) q t => by
    rw [List.map_cons, List.map_cons]
    by_cases e : k0 = k
    · rw [if_pos e, if_pos e]; exact .cons h (KReps.over h t)
    · rw [if_neg e, if_neg e]; exact .cons q (KReps.over h t)
theorem KReps.put {v : List (Key × V)} {d : List (Key × D)} {k : Key} {y : V} {x : D} (r : KReps K f Z v d) (h : Rep K f Z y x) : KReps K f Z (putK v k y) (putD d k x) := by
  unfold putK putD
  rw [r.any k]
  split
  · exact r.over h
  · exact r.app (.cons h .nil)
theorem KReps.merge : ∀ {m : List (Key × V)} {n : List (Key × D)} {v : List (Key × V)} {d : List (Key × D)}, KReps K f Z m n → KReps K f Z v d → KReps K f Z (mergeK v m) (mergeD d n)
  | _, _, _, _, .nil, r => r
  | (k, y) :: m, (_, x) :: n, v, d, .cons q t, r => show KReps K f Z (mergeK (putK v k y) m) (mergeD (putD d k x) n) from KReps.merge t (r.put q)
end
theorem keyD_rep {m : Md} {K : PySem.W.Frag} {f : Addr} {Z H H0 : Hp} {v : V} {d : D} {k : Key} (r : Res m K f H0 Z H v d) (h : keyD d = some k) : v = kV k := by
  cases d with
  | int i => cases h; exact r.int
  | str x => cases h; exact r.str
  | _ => cases h
/-! ### displays -/
abbrev SP := En → Fd → O (List (Key × D))
def pNil : SP := fun _ φ => .ok [] φ
def pCons (A B : SX) (P : SP) : SP := fun ρ φ => (A ρ φ).bind fun k φ1 => (B ρ φ1).bind fun v φ2 => match keyD k with
  | some k => (P ρ φ2).bind fun l φ3 => .ok ((k, v) :: l) φ3
  | none => .bad
def PostP (c : Ct) (W : WX) (o : O (List (Key × D))) (σ : L2.St) (Z H : Hp) (Q : List (V × V) → Hp → Prop) : Prop :=
  match o with
  | .ok l φ => ∀ kvs Z' H', Ext c.f Z H Z' H' → Wf c.K c.f Z' H' φ → KReps c.K c.f Z' kvs l → Q (kvs.map fun kv => (kV kv.1, kv.2)) H'
  | .ex x l φ => ∀ cls dx Z' H', Ext c.f Z H Z' H' → Wf c.K c.f Z' H' φ → XRep c Z' H' x l cls dx → W cls dx σ H'
  | .bad => False
section
variable {X : Cx} {c : Ct} {own : List Ms} {m : Md} {W : WX} {pos : Pos} {Z H Z1 H1 : Hp} {σ : L2.St}
theorem PostP.shift {o : O (List (Key × D))} {Q : List (V × V) → Hp → Prop} (e : Ext c.f Z H Z1 H1) (h : PostP c W o σ Z H Q) : PostP c W o σ Z1 H1 Q := by
  cases o with
  | ok d φ => exact fun v Z' H' e' => h v Z' H' (e.trans e')
  | ex x l φ => exact fun cls dx Z' H' e' => h cls dx Z' H' (e.trans e')
  | bad => exact h
/-- the pairs' trees with their reading -/
def PX (X : Cx) (c : Ct) (own : List Ms) (W : WX) (pos : Pos) (keys : List (Option Expr)) (values : List Expr) (P : SP) : Prop :=
  ∃ trs, PPs X pos keys values trs ∧ ∀ (Z H : Hp) (ρ : En) (φ : Fd) (σ : L2.St) (Q : List (V × V) → Hp → Prop), Rl c own Z ρ φ σ H → PostP c W (P ρ φ) σ Z H Q → tPairs trs σ H Q
theorem px_nil : PX X c own W pos [] [] pNil := ⟨[], pps_nil, fun Z H ρ φ σ Q R h => h [] Z H .refl R.wf .nil⟩
theorem px_cons {k v : Expr} {ks : List (Option Expr)} {vs : List Expr} {A B : SX} {P : SP} (hk : EX X c own .p W k A) (hv : EX X c own .s W v B) (hr : PX X c own W pos ks vs P) : PX X c own W pos (some k :: ks) (v :: vs) (pCons A B P) := by
  obtain ⟨trs, h1, h2⟩ := hr
  refine ⟨_, pps_cons hk hv h1, fun Z H ρ φ σ Q R h => ?_⟩
  show tE c own .p W A σ H _
  refine ⟨Z, ρ, φ, R, Post.bind (E := fun o Z H => PostP c W o σ Z H Q) (fun _ _ _ e h => h.shift e) (fun _ _ _ h => h) (fun h => h) h fun kd φ1 x Z1 H1 e1 w1 r1 h1 => ?_⟩
  show tE c own .s W B σ H1 _
  refine ⟨Z1, ρ, φ1, R.more e1 w1, Post.bind (E := fun o Z H => PostP c W o σ Z H Q) (fun _ _ _ e h => h.shift e) (fun _ _ _ h => h) (fun h => h) h1 fun vd φ2 y Z2 H2 e2 w2 r2 h3 => ?_⟩
  cases hk : keyD kd with
  | none => rw [hk] at h3; exact h3.elim
  | some key =>
    rw [hk] at h3
    refine h2 Z2 H2 ρ φ2 σ _ ((R.more e1 w1).more e2 w2) ?_
    have hx : x = kV key := keyD_rep (r1.pmono e2) hk
    have h3' : PostP c W ((P ρ φ2).bind fun l φ3 => O.ok ((key, vd) :: l) φ3) σ Z2 H2 Q := h3
    cases hP : P ρ φ2 with
    | ok l φ3 =>
      rw [hP] at h3'
      intro kvs Z' H' e' w' r'
      have := h3' ((key, y) :: kvs) Z' H' e' w' (.cons (Rep.mono e'.z r2) r')
      rw [hx]
      exact this
    | ex _ _ _ => rw [hP] at h3'; exact h3'
    | bad => rw [hP] at h3'; exact h3'
def eDsp (P : SP) : SX := fun ρ φ => (P ρ φ).bind fun l φ1 => if l.length ≤ 15 then .ok (.dk (mergeD [] l)) φ1 else .bad
theorem x_dsp {keys : List (Option Expr)} {values : List Expr} {P : SP} (h : PX X c own W pos keys values P) (hall : keys.all (·.isSome) = true := by rfl) (hl : keys.length = values.length := by rfl) (h0 : keys ≠ [] := by exact List.cons_ne_nil _ _) (h15 : keys.length ≤ 15 := by decide) :
    EX X c own .o W (.Dict keys values pos) (eDsp P) := by
  obtain ⟨trs, h1, h2⟩ := h
  refine PE.weak (pe_disp h1 hall hl h0 h15) ?_
  rintro σ H Q ⟨Z, ρ, φ, R, h⟩ p hp
  have w := R.wf
  have hz : Z p = none := by
    cases e : Z p with
    | none => rfl
    | some u => rw [w.sub p u e] at hp; cases hp
  have hf : p ≠ c.f := fun e => w.hf (e ▸ hp)
  have up : ∀ (o : HO) b u, H b = some u → upd H p o b = some u := fun o b u q => by rw [upd_ne (ne_of_none q hp)]; exact q
  have e0 : Ext c.f Z H Z (upd H p (.dK [])) := ⟨fun _ _ q => q, fun b u _ q => up _ b u q, fun b hb => by
    cases e : H b with
    | none => exact absurd e hb
    | some u => rw [up _ b u e]; simp, fun _ _ q => q, .same (upd_ne (Ne.symm hf))⟩
  have w0 : Wf c.K c.f Z (upd H p (.dK [])) φ := ⟨fun b u q => up _ b u (w.sub b u q), w.zf, by
    obtain ⟨s, h1, h2⟩ := w.feed
    exact ⟨s, h1, up _ _ _ h2⟩, w.ok⟩
  refine h2 Z _ ρ φ σ _ (R.more e0 w0) ?_
  unfold eDsp at h
  cases hP : P ρ φ with
  | bad => rw [hP] at h; exact h
  | ex x l φ1 =>
    rw [hP] at h
    exact fun cls dx Z' H' e' w' r' => h cls dx Z' H' (e0.trans e') w' r'
  | ok l φ1 =>
    rw [hP] at h
    intro kvs Z' H' e' w' r'
    obtain ⟨hl15, h4⟩ := iteO_ok (E := fun o => Post c .o W o σ Z H Q) h fun z => z
    have hp' : H' p = some (.dK []) := e'.h p _ hf upd_same
    have hz' : Z' p = none := e'.n p (by rw [upd_same]; simp) hz
    have upH : ∀ (o : HO) b u, b ≠ p → H' b = some u → upd H' p o b = some u := fun o b u hb q => by rw [upd_ne hb]; exact q
    refine ⟨hp', kvs, rfl, by rw [r'.length]; exact hl15, ?_⟩
    have e1 : Ext c.f Z H Z' (upd H' p (.dK (mergeK [] kvs))) := by
      refine ⟨e'.z, fun b u hb q => upH _ b u (ne_of_none q hp) (e'.h b u hb (up _ b u q)), fun b hb => ?_, fun b hb q => e'.n b (by
        cases e : H b with
        | none => exact absurd e hb
        | some u => rw [up _ b u e]; simp) q, ?_⟩
      · cases e : H b with
        | none => exact absurd e hb
        | some u =>
          have hbp : b ≠ p := ne_of_none e hp
          rw [upd_ne hbp]
          exact e'.k b (by rw [up _ b u e]; simp)
      · exact (FdK.same (upd_ne (Ne.symm hf))).trans (e'.d.trans (.same (upd_ne (Ne.symm hf))))
    have w1 : Wf c.K c.f Z' (upd H' p (.dK (mergeK [] kvs))) φ1 := ⟨fun b u q => upH _ b u (fun z => by rw [z, hz'] at q; cases q) (w'.sub b u q), w'.zf, by
      obtain ⟨s, h1, h2⟩ := w'.feed
      exact ⟨s, h1, upH _ _ _ (Ne.symm hf) h2⟩, w'.ok⟩
    refine h4 (.ref p) Z' _ e1 w1 ?_
    unfold Res
    rw [if_pos (show (D.dk (mergeD [] l)).mt = true from rfl)]
    exact ⟨p, _, rfl, hp, hz', hf, upd_same, .dk (r'.merge .nil)⟩
/-- {} -/
def eDct0 : SX := fun _ φ => .ok (.dk []) φ
theorem x_dct0 : EX X c own .o W (.Dict [] [] pos) eDct0 := by
  refine PE.weak pe_dnewK ?_
  rintro σ H Q ⟨Z, ρ, φ, R, h⟩
  exact Post.newO R.wf (.dk .nil) h
/-! ### d.get(k, x), d[k], k in d -/
def eDGet (A B C : SX) : SX := fun ρ φ => (A ρ φ).bind fun d φ1 => match d with
  | .dk l => (B ρ φ1).bind fun k φ2 => (C ρ φ2).bind fun z φ3 => (match keyD k with
    | some k => .ok ((valD l k).getD z) φ3
    | none => .bad)
  | _ => .bad
def eDIx (A B : SX) : SX := fun ρ φ => (A ρ φ).bind fun d φ1 => match d with
  | .dk l => (B ρ φ1).bind fun k φ2 => (match keyD k with
    | some k => ofO (valD l k) φ2
    | none => .bad)
  | _ => .bad
variable {o k z : Expr} {A B C : SX} {apos cpos : Pos}
theorem x_dget (hu : X.A.units + 64 < cLine) (ha : EX X c own .p W o A) (hb : EX X c own .p W k B) (hz : EX X c own .s W z C) (hm : M2 X o "get" apos k z cpos := by exact ⟨rfl, rfl, rfl, rfl⟩) : EX X c own .s W (.Call (.Attribute o "get" apos) [k, z] [] cpos) (eDGet A B C) := by
  refine PE.weak (pe_dget2 (by omega) ha hb hz hm) ?_
  rintro σ H Q ⟨Z, ρ, φ, R, h⟩
  refine ⟨Z, ρ, φ, R, Post.bindE h fun d φ1 x Z1 H1 e1 w1 r1 h1 => ?_⟩
  cases d with
  | dk l =>
    obtain ⟨a, kvs, rfl, ha1, rk⟩ := r1.dk w1
    refine ⟨a, rfl, .inl ⟨kvs, Rd.of ha1⟩, Z1, ρ, φ1, R.more e1 w1, Post.bindE h1 fun kd φ2 y Z2 H2 e2 w2 r2 h2 => ?_⟩
    refine ⟨Z2, ρ, φ2, (R.more e1 w1).more e2 w2, Post.bindE h2 fun zd φ3 v Z3 H3 e3 w3 r3 h3 => ?_⟩
    cases hk : keyD kd with
    | none => rw [hk] at h3; exact h3.elim
    | some key =>
      rw [hk] at h3
      obtain ⟨a', kvs', ea, ha3, rk3⟩ := ((r1.pmono e2).pmono e3).dk w3
      cases ea
      have hy : y = kV key := keyD_rep (r2.pmono e3) hk
      refine ⟨valV kvs' key, by rw [hy]; exact DGet.k ha3, ?_⟩
      have h3' : Post c .s W (.ok ((valD l key).getD zd) φ3) σ Z3 H3 Q := h3
      cases hv : valD l key with
      | none =>
        rw [hv] at h3'
        rw [rk3.miss hv]
        exact h3'.now w3 r3
      | some u =>
        rw [hv] at h3'
        obtain ⟨y2, e4, r4⟩ := rk3.hit hv
        rw [e4]
        exact h3'.now w3 r4
  | _ => exact h1.elim
theorem x_dix (hu : X.A.units + 64 < cLine) (ha : EX X c own .p W o A) (hb : EX X c own .p W k B) (hs : NoSl k := by exact fun _ _ => rfl) : EX X c own .s W (.Subscript o k pos) (eDIx A B) := by
  refine PE.weak (pe_dget (by omega) ha hb hs) ?_
  rintro σ H Q ⟨Z, ρ, φ, R, h⟩
  refine ⟨Z, ρ, φ, R, Post.bindE h fun d φ1 x Z1 H1 e1 w1 r1 h1 => ?_⟩
  cases d with
  | dk l =>
    refine ⟨Z1, ρ, φ1, R.more e1 w1, Post.bindE h1 fun kd φ2 y Z2 H2 e2 w2 r2 h2 => ?_⟩
    cases hk : keyD kd with
    | none => rw [hk] at h2; exact h2.elim
    | some key =>
      rw [hk] at h2
      obtain ⟨a, kvs, rfl, ha2, rk⟩ := (r1.pmono e2).dk w2
      have hy : y = kV key := keyD_rep r2 hk
      obtain ⟨z, hz, h3⟩ := ofO_ok (E := fun o => Post c .s W o σ Z2 H2 Q) h2 fun z => z
      obtain ⟨v, e4, r4⟩ := rk.hit hz
      exact ⟨a, v, rfl, by rw [hy, ← e4]; exact DGet.k ha2, h3.now w2 r4⟩
  | _ => exact h1.elim
end
end Pf

set_option Elab.async false
set_option linter.all false
set_option maxRecDepth 100000
set_option maxHeartbeats 4000000
namespace Pf
open PySem PySem.Spec PyProof.Rows L2

/-! ## a module's constants that are tuples, and dicts with ints as keys -/
def repF (u : Value) (d : D) : Bool := match u, d with
  | .int i _, .int j => i == j
  | .str x _, .str y => decide (x = y)
  | .none, .non => true
  | .bool b, .bl c => b == c
  | _, _ => false
def repFs : List Value → List D → Bool
  | [], [] => true
  | u :: us, d :: ds => repF u d && repFs us ds
  | _, _ => false
def repB (K : PySem.W.Frag) (u : Value) (d : D) : Bool := match d with
  | .tup ds => match u with
    | .ref t => match K.lookup t with
      | some o => (match o.cls with | .type n => n == "tuple" | _ => false) && (match o.data with | .seq its _ => decide (its.size ≤ 1000) && repFs its.toList ds | _ => false)
      | none => false
    | _ => false
  | d => repF u d
theorem repF_ok {u : Value} {d : D} (h : repF u d = true) : ∃ v, RelV v u ∧ ∀ K f Z, Rep K f Z v d := by
  unfold repF at h
  split at h
  · rename_i i t j
    exact ⟨.int i, ⟨t, rfl⟩, fun K f Z => by rw [beq_iff_eq] at h; subst h; exact .int _⟩
  · rename_i x t y
    exact ⟨.str x, ⟨t, rfl⟩, fun K f Z => by rw [decide_eq_true_eq] at h; subst h; exact .str _⟩
  · exact ⟨.non, rfl, fun K f Z => .non⟩
  · rename_i b d
    exact ⟨.bl b, rfl, fun K f Z => by rw [beq_iff_eq] at h; subst h; exact .bl _⟩
  · cases h
theorem repFs_ok : ∀ {us : List Value} {ds : List D}, repFs us ds = true → ∃ vs, Vals vs us ∧ ∀ K f Z, Reps K f Z vs ds
  | [], [], _ => ⟨[], .nil, fun _ _ _ => .nil⟩
  | u :: us, d :: ds, h => by
    have h' : (repF u d && repFs us ds) = true := h
    rw [Bool.and_eq_true] at h'
    obtain ⟨v, h1, h2⟩ := repF_ok h'.1
    obtain ⟨vs, h3, h4⟩ := repFs_ok h'.2
    exact ⟨v :: vs, .cons h1 h3, fun K f Z => .cons (h2 K f Z) (h4 K f Z)⟩
  | [], _ :: _, h => by cases h
  | _ :: _, [], h => by cases h
theorem repB_ok {K : PySem.W.Frag} {u : Value} {d : D} (h : repB K u d = true) : ∃ v, RelV v u ∧ ∀ f Z, Rep K f Z v d := by
  have flat : repF u d = true → ∃ v, RelV v u ∧ ∀ f Z, Rep K f Z v d := fun h => by
    obtain ⟨v, h1, h2⟩ := repF_ok h
    exact ⟨v, h1, fun f Z => h2 K f Z⟩
  cases d with
  | tup ds =>
    unfold repB at h
    dsimp only at h
    split at h
    · rename_i t
      split at h
      · rename_i o ho
        rw [Bool.and_eq_true] at h
        obtain ⟨h1, h2⟩ := h
        split at h1
        · rename_i n hc
          split at h2
          · rename_i its m hd
            rw [Bool.and_eq_true, decide_eq_true_eq] at h2
            obtain ⟨vs, h3, h4⟩ := repFs_ok h2.2
            refine ⟨.ref t, rfl, fun f Z => .tup (.inr ⟨o, its, m, ho, ?_, hd, ?_, h3⟩) (h4 K f Z)⟩
            · rw [hc, beq_iff_eq.mp h1]
            · rw [sizeLine_eq]; have := h2.1; omega
          · cases h2
        · cases h1
      · cases h
    · cases h
  | _ => exact flat h
def gdB (K : PySem.W.Frag) (p : Addr) (tbl : List (Int × D)) : Bool := match K.lookup p with
  | some ⟨.type n, none, .dict es _, sl⟩ => n == "dict" && sl.isEmpty && es.toList.all (fun e => match e.key with | .int i _ => e.hash == hashInt i | _ => false) && tbl.all fun kd => match findBy Value.isInt es kd.1 with | some u => repB K u kd.2 | none => false
  | _ => false
def gdF (tbl : List (Int × D)) (k : D) : Option D := match k with
  | .int i => (tbl.find? fun kd => decide (kd.1 = i)).map (·.2)
  | _ => none
def rGd (P : Program) (w : World) (K : PySem.W.Frag) : R2 := fun x y H Q => ∃ p i es n u v, x = .ref p ∧ y = .int i ∧ K.lookup p = some ⟨.type "dict", none, .dict es n, #[]⟩ ∧ KeysOf (intKind P w) es ∧ findBy Value.isInt es i = some u ∧ RelV v u ∧ Q v H
theorem ix_gd {X : Cx} : IxR X (rGd X.prog X.w X.K) := by
  intro value slice pins s σ H x y v u Q I rx ry h hs
  obtain ⟨p, i, es, n, u0, r, rfl, rfl, hl, hk, hf, ru, q⟩ := h
  obtain rfl : v = Value.ref p := rx
  obtain ⟨t, rfl⟩ := ry
  have hm : s.heap.MapOf (intKind X.prog X.w) p (fun k => findBy Value.isInt es k) := ⟨_, es, n, I.kIn _ _ hl, ⟨rfl, rfl, rfl⟩, rfl, hk, fun _ => rfl⟩
  exact tail_any hm.typeIs slot_dict_getitem.lookup (wpAny_getItem_of (intKind_is X.prog X.w i t) hm hf ⟨r, H, I.tok _, ru, q⟩) hs
section
variable {X : Cx} {c : Ct} {own : List Ms} {m : Md} {W : WX} {pos p0 : Pos}
/-- T[k], T a dict of the module -/
def eGIx (tbl : List (Int × D)) (B : SX) : SX := fun ρ φ => (B ρ φ).bind fun k φ1 => ofO (gdF tbl k) φ1
theorem gd_at {p : Addr} {tbl : List (Int × D)} {i : Int} {d : D} (h : gdB X.K p tbl = true) (hd : gdF tbl (.int i) = some d) :
    ∃ es n u v, X.K.lookup p = some ⟨.type "dict", none, .dict es n, #[]⟩ ∧ KeysOf (intKind X.prog X.w) es ∧ findBy Value.isInt es i = some u ∧ RelV v u ∧ ∀ f Z, Rep X.K f Z v d := by
  unfold gdB at h
  split at h
  · rename_i n es m sl ho
    rw [Bool.and_eq_true, Bool.and_eq_true, Bool.and_eq_true, List.all_eq_true, List.all_eq_true] at h
    obtain ⟨⟨⟨h1, h2⟩, h3⟩, h4⟩ := h
    have hd' : (tbl.find? fun kd => decide (kd.1 = i)).map (·.2) = some d := hd
    obtain ⟨kd, e1, e2⟩ := Option.map_eq_some_iff.mp hd'
    have hk : kd.1 = i := by simpa using List.find?_some e1
    have h5 := h4 kd (List.mem_of_find?_eq_some e1)
    rw [hk] at h5
    split at h5
    · rename_i u hu
      obtain ⟨v, r1, r2⟩ := repB_ok h5
      refine ⟨es, m, u, v, ?_, fun e he => ?_, hu, r1, fun f Z => by rw [← e2]; exact r2 f Z⟩
      · rw [ho, beq_iff_eq.mp h1, Array.isEmpty_iff.mp h2]
      · have := h3 e (Array.mem_toList_iff.mpr he)
        split at this
        · rename_i j t hj
          exact ⟨j, by rw [hj]; exact intKind_is X.prog X.w j t, beq_iff_eq.mp this⟩
        · cases this
    · cases h5
  · cases h
theorem x_gdix {x : Str} {p : Addr} {tbl : List (Int × D)} {k : Expr} {B : SX} (hK : X.K = c.K) (hm : X.mg x = some (.ref p)) (ht : gdB X.K p tbl = true) (hb : EX X c own .p W k B) (hg : Gl X x := by rfl) (hd : (x == ("__debug__" : Str)) = false := by decide) (hs : PlainIx k := by exact fun _ _ => rfl) :
    EX X c own .s W (.Subscript (.Name x p0) k pos) (eGIx tbl B) := by
  refine PE.weak (pe_ix (ix_gd (X := X)) (pe_glob (v := V.ref p) (pos := p0) hg hm rfl hd) hb hs) ?_
  rintro σ H Q ⟨Z, ρ, φ, R, h⟩
  refine ⟨Z, ρ, φ, R, Post.bindE h fun kd φ1 y Z1 H1 e1 w1 r1 h1 => ?_⟩
  obtain ⟨z, hz, h2⟩ := ofO_ok (E := fun o => Post c .s W o σ Z1 H1 Q) h1 fun z => z
  cases kd with
  | int i =>
    obtain ⟨es, n, u, v, e1, e2, e3, e4, e5⟩ := gd_at ht hz
    exact ⟨p, i, es, n, u, v, rfl, r1.int, e1, e2, e3, e4, h2.now w1 (by rw [← hK]; exact e5 c.f Z1)⟩
  | _ => cases hz
/-- a module's tuple -/
theorem x_gtup {x : Str} {u : Value} {d : D} (hK : X.K = c.K) (hm : X.mg x = some u) (ht : repB X.K u d = true) (hf : d.mt = false := by rfl) (hg : Gl X x := by rfl) (hd : (x == ("__debug__" : Str)) = false := by decide) :
    EX X c own .o W (.Name x pos) (fun _ φ => .ok d φ) := by
  obtain ⟨v, h1, h2⟩ := repB_ok ht
  exact PE.weak (pe_glob hg hm h1 hd) fun σ H Q ⟨Z, ρ, φ, R, h⟩ => h _ Z H .refl R.wf (Res.of_flat (by rw [← hK]; exact h2 _ _) hf)
/-! ## is True, is False -/
def gIsB : D → D → Option D
  | .bl a, .bl b => some (.bl (decide (a = b)))
  | _, _ => none
def gIsNotB : D → D → Option D
  | .bl a, .bl b => some (.bl (!decide (a = b)))
  | _, _ => none
theorem gIsB_ok : OpG (fun x y H Q => ∃ a b, x = .bl a ∧ y = .bl b ∧ Q (.bl (decide (a = b))) H) m c gIsB := by
  intro Z H φ x y d e z W σ Q w rx ry hg h
  cases d with
  | bl a =>
    cases e with
    | bl b => cases hg; exact ⟨a, b, rx.bl, ry.bl, h.nowB w⟩
    | _ => cases hg
  | _ => cases e <;> cases hg
theorem gIsNotB_ok : OpG (fun x y H Q => ∃ a b, x = .bl a ∧ y = .bl b ∧ Q (.bl (!decide (a = b))) H) m c gIsNotB := by
  intro Z H φ x y d e z W σ Q w rx ry hg h
  cases d with
  | bl a =>
    cases e with
    | bl b => cases hg; exact ⟨a, b, rx.bl, ry.bl, h.nowB w⟩
    | _ => cases hg
  | _ => cases e <;> cases hg
variable {a b : Expr} {A B : SX}
theorem x_isB (ha : EX X c own .p W a A) (hb : EX X c own .p W b B) : EX X c own .o W (.Compare a [.Is] [b] pos) (eBin gIsB A B) := x_cmp op_is_bl gIsB_ok ha hb (nomark _)
theorem x_isnotB (ha : EX X c own .p W a A) (hb : EX X c own .p W b B) : EX X c own .o W (.Compare a [.IsNot] [b] pos) (eBin gIsNotB A B) := x_cmp op_isnot_bl gIsNotB_ok ha hb (nomark _)
theorem b_isB (ha : EX X c own .p W a A) (hb : EX X c own .p W b B) : BX X c own W (.Compare a [.Is] [b] pos) (bCmp gIsB A B) := b_cmp op_is_bl gIsB_ok ha hb (nomark _)
theorem b_isnotB (ha : EX X c own .p W a A) (hb : EX X c own .p W b B) : BX X c own W (.Compare a [.IsNot] [b] pos) (bCmp gIsNotB A B) := b_cmp op_isnot_bl gIsNotB_ok ha hb (nomark _)
end
end Pf

set_option Elab.async false
set_option linter.all false
set_option maxRecDepth 100000
set_option maxHeartbeats 4000000
namespace Pf
open PySem PySem.Spec PyProof.Rows L2
def topS (i : Nat) : Stmt := PySem.Challenge.pw_eightroots_k51_whole_halves_of_rows_and.main.body.getD i (.Pass ⟨0, 0, 0, 0⟩)
abbrev s_fault_of_kind : Stmt := topS 4
theorem sc_fault_of_kind : FnScope ["row", "number"] ["row"] (defScope s_fault_of_kind) := ⟨rfl, rfl, rfl, by decide +kernel, rfl, by decide +kernel, by decide +kernel⟩
def B_fault_of_kind : SS := (sSeq (sIf (bTru (eCB gAny (aCons (eLc (iSeq (eVar 0)) (tgN 1) bYes (eBin gNe (eBin gMod (eBin gSub (eVar 1) (eBin gIx (eVar 0) (eInt 0))) (eInt 2)) (eInt 0)) [1]) aNil))) (sSeq (sRet (eInt 8)) sNil) sNil) (sSeq (sIf (bCmp gNe (eBin gMod (eCB gSum (aCons (eVar 0) aNil)) (eInt 4)) (eInt 0)) (sSeq (sRet (eBin gAdd (eInt 8) (eInt 1))) sNil) sNil) (sSeq (sRet eNon) sNil)))
def F_fault_of_kind : Fn := runB B_fault_of_kind 1 2
abbrev s_fault_of_row : Stmt := topS 3
theorem sc_fault_of_row : FnScope ["row", "at", "number"] ["row"] (defScope s_fault_of_row) := ⟨rfl, rfl, rfl, by decide +kernel, rfl, by decide +kernel, by decide +kernel⟩
def B_fault_of_row : SS := (sSeq (sIf (bCmp gNe (eCB gLen (aCons (eVar 0) aNil)) (eInt 8)) (sSeq (sRet (eUn gNeg (eInt 1))) sNil) sNil) (sSeq (sFor (iEn (aCons (eVar 0) aNil)) (tgT 2 (tsCons (tgN 1) (tsCons (tgN 2) tsNil))) (sSeq (sIf (bNot (bVal (eCh gLe gLe (eUn gNeg (eInt 99)) (eVar 2) (eInt 99)))) (sSeq (sRet (eVar 1)) sNil) sNil) sNil)) (sSeq (sRet (eCall F_fault_of_kind (aCons (eVar 0) aNil))) sNil)))
def F_fault_of_row : Fn := runB B_fault_of_row 1 3
abbrev s_row_product : Stmt := topS 5
theorem sc_row_product : FnScope ["one", "other", "a", "b"] ["one", "other"] (defScope s_row_product) := ⟨rfl, rfl, rfl, by decide +kernel, rfl, by decide +kernel, by decide +kernel⟩
def B_row_product : SS := (sSeq (sRet (eBin gDiv (eCB gSum (aCons (eLc (iZp (aCons (eVar 0) (aCons (eVar 1) aNil))) (tgT 2 (tsCons (tgN 2) (tsCons (tgN 3) tsNil))) bYes (eBin gMul (eVar 2) (eVar 3)) [2, 3]) aNil)) (eInt 4))) sNil)
def F_row_product : Fn := runB B_row_product 2 4
abbrev s_row_square : Stmt := topS 6
theorem sc_row_square : FnScope ["row"] ["row"] (defScope s_row_square) := ⟨rfl, rfl, rfl, by decide +kernel, rfl, by decide +kernel, by decide +kernel⟩
def B_row_square : SS := (sSeq (sRet (eCall F_row_product (aCons (eVar 0) (aCons (eVar 0) aNil)))) sNil)
def F_row_square : Fn := runB B_row_square 1 1
abbrev s_row_sum : Stmt := topS 7
theorem sc_row_sum : FnScope ["one", "other", "a", "b"] ["one", "other"] (defScope s_row_sum) := ⟨rfl, rfl, rfl, by decide +kernel, rfl, by decide +kernel, by decide +kernel⟩
def B_row_sum : SS := (sSeq (sRet (eLc (iZp (aCons (eVar 0) (aCons (eVar 1) aNil))) (tgT 2 (tsCons (tgN 2) (tsCons (tgN 3) tsNil))) bYes (eBin gAdd (eVar 2) (eVar 3)) [2, 3])) sNil)
def F_row_sum : Fn := runB B_row_sum 2 4
abbrev s_row_less : Stmt := topS 8
theorem sc_row_less : FnScope ["one", "other", "a", "b"] ["one", "other"] (defScope s_row_less) := ⟨rfl, rfl, rfl, by decide +kernel, rfl, by decide +kernel, by decide +kernel⟩
def B_row_less : SS := (sSeq (sRet (eLc (iZp (aCons (eVar 0) (aCons (eVar 1) aNil))) (tgT 2 (tsCons (tgN 2) (tsCons (tgN 3) tsNil))) bYes (eBin gSub (eVar 2) (eVar 3)) [2, 3])) sNil)
def F_row_less : Fn := runB B_row_less 2 4
abbrev s_even_roots : Stmt := topS 9
theorem sc_even_roots : FnScope ["found", "j", "i", "a", "b", "root"] [] (defScope s_even_roots) := ⟨rfl, rfl, rfl, by decide +kernel, rfl, by decide +kernel, by decide +kernel⟩
def B_even_roots : SS := (sSeq (sSet 0 (eLst aNil)) (sSeq (sFor (iRg1 (aCons (eInt 8) aNil)) (tgN 1) (sSeq (sFor (iRg1 (aCons (eVar 1) aNil)) (tgN 2) (sSeq (sFor (iSeq (eTup (aCons (eTup (aCons (eInt 2) (aCons (eInt 2) aNil))) (aCons (eTup (aCons (eInt 2) (aCons (eUn gNeg (eInt 2)) aNil))) (aCons (eTup (aCons (eUn gNeg (eInt 2)) (aCons (eInt 2) aNil))) (aCons (eTup (aCons (eUn gNeg (eInt 2)) (aCons (eUn gNeg (eInt 2)) aNil))) aNil)))))) (tgT 2 (tsCons (tgN 3) (tsCons (tgN 4) tsNil))) (sSeq (sSet 5 (eBin gMul (eLst (aCons (eInt 0) aNil)) (eInt 8))) (sSeq (sPut 5 (eVar 3) (eVar 2)) (sSeq (sPut 5 (eVar 4) (eVar 1)) (sSeq (sMut 0 gApp (eVar 5)) sNil))))) sNil)) sNil)) (sSeq (sRet (eVar 0)) sNil)))
def F_even_roots : Fn := runB B_even_roots 0 6
abbrev s_odd_roots : Stmt := topS 10
theorem sc_odd_roots : FnScope ["found", "_", "row", "sign"] [] (defScope s_odd_roots) := ⟨rfl, rfl, rfl, by decide +kernel, rfl, by decide +kernel, by decide +kernel⟩
def B_odd_roots : SS := (sSeq (sSet 0 (eLst (aCons (eLst aNil) aNil))) (sSeq (sFor (iRg1 (aCons (eInt 8) aNil)) (tgN 1) (sSeq (sSet 0 (eLc2 (iSeq (eVar 0)) (tgN 2) bYes (iSeq (eTup (aCons (eUn gNeg (eInt 1)) (aCons (eInt 1) aNil)))) (tgN 3) bYes (eBin gAdd (eVar 2) (eLst (aCons (eVar 3) aNil))) [2, 3] [3])) sNil)) (sSeq (sRet (eLc (iSeq (eVar 0)) (tgN 2) (bCmp gEq (eBin gMod (eCB gSum (aCons (eVar 2) aNil)) (eInt 4)) (eInt 0)) (eVar 2) [2])) sNil)))
def F_odd_roots : Fn := runB B_odd_roots 0 4
abbrev s_all_roots : Stmt := topS 11
theorem sc_all_roots : FnScope [] [] (defScope s_all_roots) := ⟨rfl, rfl, rfl, by decide +kernel, rfl, by decide +kernel, by decide +kernel⟩
noncomputable def B_all_roots : SS := (sSeq (sRet (eCB gSorted (aCons (eBin gAdd (eCall0 F_even_roots) (eCall0 F_odd_roots)) aNil))) sNil)
noncomputable def F_all_roots : Fn := runB B_all_roots 0 0
abbrev s_is_root : Stmt := topS 12
theorem sc_is_root : FnScope ["row"] ["row"] (defScope s_is_root) := ⟨rfl, rfl, rfl, by decide +kernel, rfl, by decide +kernel, by decide +kernel⟩
def B_is_root : SS := (sSeq (sRet (eAnd (eBin gIs (eCall F_fault_of_row (aCons (eVar 0) aNil)) eNon) (eBin gEq (eCall F_row_square (aCons (eVar 0) aNil)) (eInt 2)))) sNil)
def F_is_root : Fn := runB B_is_root 1 1
abbrev s_distance : Stmt := topS 14
theorem sc_distance : FnScope ["point", "row", "a", "b"] ["point", "row"] (defScope s_distance) := ⟨rfl, rfl, rfl, by decide +kernel, rfl, by decide +kernel, by decide +kernel⟩
def B_distance : SS := (sSeq (sRet (eCB gSum (aCons (eLc (iZp (aCons (eVar 0) (aCons (eVar 1) aNil))) (tgT 2 (tsCons (tgN 2) (tsCons (tgN 3) tsNil))) bYes (eBin gMul (eBin gSub (eVar 2) (eVar 3)) (eBin gSub (eVar 2) (eVar 3))) [2, 3]) aNil))) sNil)
def F_distance : Fn := runB B_distance 2 4
abbrev s_steps_of_two : Stmt := topS 16
theorem sc_steps_of_two : FnScope ["steps", "at", "number"] [] (defScope s_steps_of_two) := ⟨rfl, rfl, rfl, by decide +kernel, rfl, by decide +kernel, by decide +kernel⟩
def B_steps_of_two : SS := (sSeq (sSet 0 (eLst aNil)) (sSeq (sFor (iRg1 (aCons (eInt 8) aNil)) (tgN 1) (sSeq (sFor (iSeq (eTup (aCons (eInt 2) (aCons (eUn gNeg (eInt 2)) aNil)))) (tgN 2) (sSeq (sMut 0 gApp (eBin gAdd (eBin gAdd (eBin gMul (eLst (aCons (eInt 0) aNil)) (eVar 1)) (eLst (aCons (eVar 2) aNil))) (eBin gMul (eLst (aCons (eInt 0) aNil)) (eBin gSub (eBin gSub (eInt 8) (eInt 1)) (eVar 1))))) sNil)) sNil)) (sSeq (sRet (eVar 0)) sNil)))
def F_steps_of_two : Fn := runB B_steps_of_two 0 3
abbrev s_near_of_kind : Stmt := topS 15
theorem sc_near_of_kind : FnScope ["point", "odd", "loose", "rows", "at", "step", "row", "sign"] ["point", "odd"] (defScope s_near_of_kind) := ⟨rfl, rfl, rfl, by decide +kernel, rfl, by decide +kernel, by decide +kernel⟩
def B_near_of_kind : SS := (sSeq (sSet 2 (eLc (iRg1 (aCons (eInt 8) aNil)) (tgN 4) (bCmp gNe (eBin gMod (eBin gSub (eBin gIx (eVar 0) (eVar 4)) (eVar 1)) (eInt 2)) (eInt 0)) (eVar 4) [4])) (sSeq (sSet 3 (eLst (aCons (eCB gList (aCons (eVar 0) aNil)) aNil))) (sSeq (sIf (bAnd (bNot (bTru (eVar 2))) (bCmp gNe (eBin gMod (eCB gSum (aCons (eVar 0) aNil)) (eInt 4)) (eInt 0))) (sSeq (sRet (eLc (iSeq (eCall0 F_steps_of_two)) (tgN 5) bYes (eCall F_row_sum (aCons (eVar 0) (aCons (eVar 5) aNil))) [5])) sNil) sNil) (sSeq (sFor (iSeq (eVar 2)) (tgN 4) (sSeq (sSet 3 (eLc2 (iSeq (eVar 3)) (tgN 6) bYes (iSeq (eTup (aCons (eUn gNeg (eInt 1)) (aCons (eInt 1) aNil)))) (tgN 7) bYes (eBin gAdd (eBin gAdd (eSl (eVar 6) oNone (oSome (eVar 4))) (eLst (aCons (eBin gAdd (eBin gIx (eVar 6) (eVar 4)) (eVar 7)) aNil))) (eSl (eVar 6) (oSome (eBin gAdd (eVar 4) (eInt 1))) oNone)) [6, 7] [7])) sNil)) (sSeq (sRet (eLc (iSeq (eVar 3)) (tgN 6) (bCmp gEq (eBin gMod (eCB gSum (aCons (eVar 6) aNil)) (eInt 4)) (eInt 0)) (eVar 6) [6])) sNil)))))
def F_near_of_kind : Fn := runB B_near_of_kind 2 8
abbrev s_near_rows : Stmt := topS 17
theorem sc_near_rows : FnScope ["point", "rows", "least", "row"] ["point"] (defScope s_near_rows) := ⟨rfl, rfl, rfl, by decide +kernel, rfl, by decide +kernel, by decide +kernel⟩
noncomputable def B_near_rows : SS := (sSeq (sSet 1 (eBin gAdd (eCall F_near_of_kind (aCons (eVar 0) (aCons (eInt 0) aNil))) (eCall F_near_of_kind (aCons (eVar 0) (aCons (eInt 1) aNil))))) (sSeq (sSet 2 (eCB gMin1 (aCons (eLc (iSeq (eVar 1)) (tgN 3) bYes (eCall F_distance (aCons (eVar 0) (aCons (eVar 3) aNil))) [3]) aNil))) (sSeq (sRet (eCB gSorted (aCons (eLc (iSeq (eVar 1)) (tgN 3) (bCmp gEq (eCall F_distance (aCons (eVar 0) (aCons (eVar 3) aNil))) (eVar 2)) (eVar 3) [3]) aNil))) sNil)))
noncomputable def F_near_rows : Fn := runB B_near_rows 1 4
abbrev s_nearest_row : Stmt := topS 18
theorem sc_nearest_row : FnScope ["point"] ["point"] (defScope s_nearest_row) := ⟨rfl, rfl, rfl, by decide +kernel, rfl, by decide +kernel, by decide +kernel⟩
noncomputable def B_nearest_row : SS := (sSeq (sRet (eBin gIx (eCall F_near_rows (aCons (eVar 0) aNil)) (eInt 0))) sNil)
noncomputable def F_nearest_row : Fn := runB B_nearest_row 1 1
abbrev s_is_nearest : Stmt := topS 19
theorem sc_is_nearest : FnScope ["point", "row", "own", "root"] ["point", "row"] (defScope s_is_nearest) := ⟨rfl, rfl, rfl, by decide +kernel, rfl, by decide +kernel, by decide +kernel⟩
noncomputable def B_is_nearest : SS := (sSeq (sSet 2 (eCall F_distance (aCons (eVar 0) (aCons (eVar 1) aNil)))) (sSeq (sFor (iSeq (eCall0 F_all_roots)) (tgN 3) (sSeq (sIf (bCmp gLtA (eCall F_distance (aCons (eVar 0) (aCons (eCall F_row_sum (aCons (eVar 1) (aCons (eVar 3) aNil))) aNil))) (eVar 2)) (sSeq (sRet (eTup (aCons (eStr "nearer") (aCons (eVar 3) aNil)))) sNil) sNil) sNil)) (sSeq (sRet (eTup (aCons (eStr "nearest") aNil))) sNil)))
noncomputable def F_is_nearest : Fn := runB B_is_nearest 2 4
abbrev s_is_twice : Stmt := topS 22
theorem sc_is_twice : FnScope ["numbers", "number"] ["numbers"] (defScope s_is_twice) := ⟨rfl, rfl, rfl, by decide +kernel, rfl, by decide +kernel, by decide +kernel⟩
def B_is_twice : SS := (sSeq (sIf (bTru (eCB gAny (aCons (eLc (iSeq (eVar 0)) (tgN 1) bYes (eBin gNe (eBin gMod (eVar 1) (eInt 2)) (eInt 0)) [1]) aNil))) (sSeq (sRet (eBl false)) sNil) sNil) (sSeq (sRet (eBin gIs (eCall F_fault_of_kind (aCons (eLc (iSeq (eVar 0)) (tgN 1) bYes (eBin gDiv (eVar 1) (eInt 2)) [1]) aNil)) eNon)) sNil))
def F_is_twice : Fn := runB B_is_twice 1 2
abbrev s_lists_of : Stmt := topS 23
theorem sc_lists_of : FnScope ["choices", "found", "numbers", "row", "number"] ["choices"] (defScope s_lists_of) := ⟨rfl, rfl, rfl, by decide +kernel, rfl, by decide +kernel, by decide +kernel⟩
def B_lists_of : SS := (sSeq (sSet 1 (eLst (aCons (eLst aNil) aNil))) (sSeq (sFor (iSeq (eVar 0)) (tgN 2) (sSeq (sSet 1 (eLc2 (iSeq (eVar 1)) (tgN 3) bYes (iSeq (eVar 2)) (tgN 4) bYes (eBin gAdd (eVar 3) (eLst (aCons (eVar 4) aNil))) [3, 4] [4])) sNil)) (sSeq (sRet (eVar 1)) sNil)))
def F_lists_of : Fn := runB B_lists_of 1 5
abbrev s_rows_with_residues : Stmt := topS 24
theorem sc_rows_with_residues : FnScope ["residues", "found", "at", "row", "residue", "number"] ["residues"] (defScope s_rows_with_residues) := ⟨rfl, rfl, rfl, by decide +kernel, rfl, by decide +kernel, by decide +kernel⟩
def B_rows_with_residues : SS := (sSeq (sSet 1 (eLc (iSeq (eCall F_lists_of (aCons (eLc (iSeq (eVar 0)) (tgN 4) bYes (eGIx [(0, .tup [.int 0]), (1, .tup [.int (-3), .int 1]), (2, .tup [.int (-2), .int 2]), (3, .tup [.int (-1), .int 3])] (eVar 4)) [4]) aNil))) (tgN 3) (bCmp gEq (eCall F_row_square (aCons (eVar 3) aNil)) (eInt 4)) (eVar 3) [3])) (sSeq (sIf (bCmp gEq (eCB gSum (aCons (eVar 0) aNil)) (eInt 0)) (sSeq (sFor (iRg1 (aCons (eInt 8) aNil)) (tgN 2) (sSeq (sMut 1 gExt (eLc (iSeq (eTup (aCons (eUn gNeg (eInt 4)) (aCons (eInt 4) aNil)))) (tgN 5) bYes (eBin gAdd (eBin gAdd (eBin gMul (eLst (aCons (eInt 0) aNil)) (eVar 2)) (eLst (aCons (eVar 5) aNil))) (eBin gMul (eLst (aCons (eInt 0) aNil)) (eBin gSub (eBin gSub (eInt 8) (eInt 1)) (eVar 2)))) [5])) sNil)) sNil) sNil) (sSeq (sRet (eVar 1)) sNil)))
def F_rows_with_residues : Fn := runB B_rows_with_residues 1 6
abbrev s_frame_of : Stmt := topS 25
theorem sc_frame_of : FnScope ["row", "found", "more", "number", "other"] ["row"] (defScope s_frame_of) := ⟨rfl, rfl, rfl, by decide +kernel, rfl, by decide +kernel, by decide +kernel⟩
noncomputable def B_frame_of : SS := (sSeq (sSet 1 (eLst aNil)) (sSeq (sFor (iSeq (eTup (aCons (eInt 0) (aCons (eInt 2) aNil)))) (tgN 2) (sSeq (sMut 1 gExt (eCall F_rows_with_residues (aCons (eLc (iSeq (eVar 0)) (tgN 3) bYes (eBin gMod (eBin gAdd (eVar 3) (eVar 2)) (eInt 4)) [3]) aNil))) sNil)) (sSeq (sRet (eCB gSorted (aCons (eLc (iSeq (eVar 1)) (tgN 4) (bTru (eCall F_is_twice (aCons (eCall F_row_less (aCons (eVar 0) (aCons (eVar 4) aNil))) aNil))) (eVar 4) [4]) aNil))) sNil)))
noncomputable def F_frame_of : Fn := runB B_frame_of 1 5
abbrev s_rest_by_two : Stmt := topS 26
theorem sc_rest_by_two : FnScope ["row", "roots", "root"] ["row"] (defScope s_rest_by_two) := ⟨rfl, rfl, rfl, by decide +kernel, rfl, by decide +kernel, by decide +kernel⟩
noncomputable def B_rest_by_two : SS := (sSeq (sIf (bTru (eCall F_is_twice (aCons (eVar 0) aNil))) (sSeq (sRet (eTup (aCons (eStr "nothing") aNil))) sNil) sNil) (sSeq (sSet 1 (eLc (iSeq (eCall0 F_all_roots)) (tgN 2) (bTru (eCall F_is_twice (aCons (eCall F_row_less (aCons (eVar 0) (aCons (eVar 2) aNil))) aNil))) (eVar 2) [2])) (sSeq (sIf (bTru (eVar 1)) (sSeq (sRet (eTup (aCons (eStr "pair") (aCons (eBin gIx (eVar 1) (eUn gNeg (eInt 1))) aNil)))) sNil) sNil) (sSeq (sRet (eTup (aCons (eStr "frame") (aCons (eCall F_frame_of (aCons (eVar 0) aNil)) aNil)))) sNil))))
noncomputable def F_rest_by_two : Fn := runB B_rest_by_two 1 3
abbrev s_sum_by_two : Stmt := topS 27
theorem sc_sum_by_two : FnScope ["row"] ["row"] (defScope s_sum_by_two) := ⟨rfl, rfl, rfl, by decide +kernel, rfl, by decide +kernel, by decide +kernel⟩
def B_sum_by_two : SS := (sSeq (sRet (eBin gMod (eBin gDiv (eCall F_row_square (aCons (eVar 0) aNil)) (eInt 2)) (eInt 2))) sNil)
def F_sum_by_two : Fn := runB B_sum_by_two 1 1
abbrev s__law_feed : Stmt := topS 29
theorem sc__law_feed : FnScope ["script"] ["script"] (defScope s__law_feed) := ⟨rfl, rfl, rfl, by decide +kernel, rfl, by decide +kernel, by decide +kernel⟩
abbrev s__law_draw : Stmt := topS 30
abbrev F__law_draw : Fn := drawF
theorem sc__law_draw : FnScope ["feed", "many", "cell", "told", "mixed"] ["feed", "many"] (defScope s__law_draw) := ⟨rfl, rfl, rfl, by decide +kernel, rfl, by decide +kernel, by decide +kernel⟩
abbrev s__law_product : Stmt := topS 31
theorem sc__law_product : FnScope ["one", "other", "k"] ["one", "other"] (defScope s__law_product) := ⟨rfl, rfl, rfl, by decide +kernel, rfl, by decide +kernel, by decide +kernel⟩
def B__law_product : SS := (sSeq (sRet (eBin gDiv (eCB gSum (aCons (eLc (iRg1 (aCons (eInt 8) aNil)) (tgN 2) bYes (eBin gMul (eBin gIx (eVar 0) (eVar 2)) (eBin gIx (eVar 1) (eVar 2))) [2]) aNil)) (eInt 4))) sNil)
def F__law_product : Fn := runB B__law_product 2 3
abbrev s__law_roots : Stmt := topS 32
theorem sc__law_roots : FnScope ["found", "code", "signs", "j", "i", "a", "b", "k"] [] (defScope s__law_roots) := ⟨rfl, rfl, rfl, by decide +kernel, rfl, by decide +kernel, by decide +kernel⟩
noncomputable def B__law_roots : SS := (sSeq (sSet 0 (eLst aNil)) (sSeq (sFor (iRg1 (aCons (eInt 256) aNil)) (tgN 1) (sSeq (sSet 2 (eLc (iRg1 (aCons (eInt 8) aNil)) (tgN 7) bYes (eBin gSub (eInt 1) (eBin gMul (eInt 2) (eBin gMod (eCB gInt (aCons (eBin gDiv (eVar 1) (eBin gIx (eLst (aCons (eInt 1) (aCons (eInt 2) (aCons (eInt 4) (aCons (eInt 8) (aCons (eInt 16) (aCons (eInt 32) (aCons (eInt 64) (aCons (eInt 128) aNil))))))))) (eVar 7))) aNil)) (eInt 2)))) [7])) (sSeq (sIf (bCmp gEq (eBin gMod (eCB gInt (aCons (eCB gSum (aCons (eVar 2) aNil)) aNil)) (eInt 4)) (eInt 0)) (sSeq (sMut 0 gApp (eVar 2)) sNil) sNil) sNil))) (sSeq (sFor (iRg1 (aCons (eInt 8) aNil)) (tgN 3) (sSeq (sFor (iRg1 (aCons (eVar 3) aNil)) (tgN 4) (sSeq (sFor (iSeq (eLst (aCons (eTup (aCons (eInt 2) (aCons (eInt 2) aNil))) (aCons (eTup (aCons (eInt 2) (aCons (eUn gNeg (eInt 2)) aNil))) (aCons (eTup (aCons (eUn gNeg (eInt 2)) (aCons (eInt 2) aNil))) (aCons (eTup (aCons (eUn gNeg (eInt 2)) (aCons (eUn gNeg (eInt 2)) aNil))) aNil)))))) (tgT 2 (tsCons (tgN 5) (tsCons (tgN 6) tsNil))) (sSeq (sMut 0 gApp (eLc (iRg1 (aCons (eInt 8) aNil)) (tgN 7) bYes (eDGet (eDsp (pCons (eVar 4) (eVar 5) (pCons (eVar 3) (eVar 6) pNil))) (eVar 7) (eInt 0)) [7])) sNil)) sNil)) sNil)) (sSeq (sRet (eCB gSorted (aCons (eVar 0) aNil))) sNil))))
noncomputable def F__law_roots : Fn := runB B__law_roots 0 8
abbrev s__law_row : Stmt := topS 33
theorem sc__law_row : FnScope ["feed", "roots", "many", "row", "step", "root", "k"] ["feed", "roots", "many"] (defScope s__law_row) := ⟨rfl, rfl, rfl, by decide +kernel, rfl, by decide +kernel, by decide +kernel⟩
def B__law_row : SS := (sSeq (sSet 3 (eLc (iRg1 (aCons (eInt 8) aNil)) (tgN 6) bYes (eInt 0) [6])) (sSeq (sFor (iRg1 (aCons (eVar 2) aNil)) (tgN 4) (sSeq (sSet 5 (eBin gIx (eVar 1) (eCall F__law_draw (aCons (eVar 0) (aCons (eInt 240) aNil))))) (sSeq (sSet 3 (eLc (iRg1 (aCons (eInt 8) aNil)) (tgN 6) bYes (eBin gAdd (eBin gIx (eVar 3) (eVar 6)) (eBin gIx (eVar 5) (eVar 6))) [6])) sNil))) (sSeq (sRet (eVar 3)) sNil)))
def F__law_row : Fn := runB B__law_row 3 7
abbrev s__law_even : Stmt := topS 34
theorem sc__law_even : FnScope ["feed", "roots", "shape", "evens", "row", "step", "root", "x", "k"] ["feed", "roots"] (defScope s__law_even) := ⟨rfl, rfl, rfl, by decide +kernel, rfl, by decide +kernel, by decide +kernel⟩
def B__law_even : SS := (sSeq (sSet 2 (eCall F__law_draw (aCons (eVar 0) (aCons (eInt 4) aNil)))) (sSeq (sSet 3 (eLc (iSeq (eVar 1)) (tgN 6) (bCmp gEq (eBin gMod (eBin gIx (eVar 6) (eInt 0)) (eInt 2)) (eInt 0)) (eVar 6) [6])) (sSeq (sIf (bCmp gEq (eVar 2) (eInt 0)) (sSeq (sRet (eLc (iSeq (eCall F__law_row (aCons (eVar 0) (aCons (eVar 1) (aCons (eCall F__law_draw (aCons (eVar 0) (aCons (eInt 4) aNil))) aNil))))) (tgN 7) bYes (eBin gMul (eInt 2) (eVar 7)) [7])) sNil) sNil) (sSeq (sSet 4 (eLc (iRg1 (aCons (eInt 8) aNil)) (tgN 8) bYes (eInt 0) [8])) (sSeq (sFor (iRg1 (aCons (eVar 2) aNil)) (tgN 5) (sSeq (sSet 6 (eBin gIx (eVar 3) (eCall F__law_draw (aCons (eVar 0) (aCons (eInt 112) aNil))))) (sSeq (sSet 4 (eLc (iRg1 (aCons (eInt 8) aNil)) (tgN 8) bYes (eBin gAdd (eBin gIx (eVar 4) (eVar 8)) (eBin gIx (eVar 6) (eVar 8))) [8])) sNil))) (sSeq (sRet (eVar 4)) sNil))))))
def F__law_even : Fn := runB B__law_even 2 9
abbrev s_law : Stmt := topS 35
theorem sc_law : FnScope ["script", "feed", "roots", "turn", "row", "point", "rest", "near", "many", "alike", "due", "one", "root", "other", "moved", "x", "k"] ["script"] (defScope s_law) := ⟨rfl, rfl, rfl, by decide +kernel, rfl, by decide +kernel, by decide +kernel⟩
noncomputable def B_law : SS := (sSeq (sSet 2 (eCall0 F__law_roots)) (sSeq (sFor (iRg1 (aCons (eInt 2) aNil)) (tgN 3) (sSeq (sSet 4 (eCall F__law_even (aCons (eVar 1) (aCons (eVar 2) aNil)))) (sSeq (sSet 5 (eLc (iSeq (eVar 4)) (tgN 15) bYes (eBin gDiv (eVar 15) (eInt 2)) [15])) (sSeq (sSet 6 (eCall F_rest_by_two (aCons (eCB gList (aCons (eVar 4) aNil)) aNil))) (sSeq (sSet 7 (eCall F_near_rows (aCons (eCB gList (aCons (eVar 5) aNil)) aNil))) (sSeq (sSet 8 (eDIx (eDsp (pCons (eStr "nothing") (eInt 1) (pCons (eStr "pair") (eInt 2) (pCons (eStr "frame") (eInt 16) pNil)))) (eBin gIx (eVar 6) (eInt 0)))) (sSeq (sIf (bOr (bCmp gNe (eCB gLen (aCons (eVar 7) aNil)) (eVar 8)) (bOr (bCmp gNe (eVar 7) (eCB gSorted (aCons (eVar 7) aNil))) (bCmp gNe (eCall F_nearest_row (aCons (eCB gList (aCons (eVar 5) aNil)) aNil)) (eBin gIx (eVar 7) (eInt 0))))) (sSeq (sRet (eBl false)) sNil) sNil) (sSeq (sSet 9 (eLst (aCons (eLc (iRg1 (aCons (eInt 8) aNil)) (tgN 16) bYes (eInt 0) [16]) aNil))) (sSeq (sIf (bCmp gEq (eBin gIx (eVar 6) (eInt 0)) (eStr "pair")) (sSeq (sSet 9 (eLst (aCons (eBin gIx (eVar 6) (eInt 1)) (aCons (eLc (iSeq (eBin gIx (eVar 6) (eInt 1))) (tgN 15) bYes (eUn gNeg (eVar 15)) [15]) aNil)))) (sSeq (sIf (bCmp gIsNotB (eCall F_is_root (aCons (eCB gList (aCons (eBin gIx (eVar 6) (eInt 1)) aNil)) aNil)) (eBl true)) (sSeq (sRet (eBl false)) sNil) sNil) sNil)) sNil) (sSeq (sIf (bCmp gEq (eBin gIx (eVar 6) (eInt 0)) (eStr "frame")) (sSeq (sSet 9 (eBin gIx (eVar 6) (eInt 1))) sNil) sNil) (sSeq (sSet 10 (eCB gSorted (aCons (eLc (iSeq (eVar 9)) (tgN 11) bYes (eLc (iRg1 (aCons (eInt 8) aNil)) (tgN 16) bYes (eBin gDiv (eBin gAdd (eBin gIx (eVar 4) (eVar 16)) (eBin gIx (eVar 11) (eVar 16))) (eInt 2)) [16]) [11]) aNil))) (sSeq (sIf (bCmp gNe (eVar 7) (eVar 10)) (sSeq (sRet (eBl false)) sNil) sNil) (sSeq (sFor (iSeq (eSl (eVar 7) oNone (oSome (eInt 3)))) (tgN 11) (sSeq (sIf (bCmp gNe (eCall F_is_nearest (aCons (eCB gList (aCons (eVar 5) aNil)) (aCons (eCB gList (aCons (eVar 11) aNil)) aNil))) (eTup (aCons (eStr "nearest") aNil))) (sSeq (sRet (eBl false)) sNil) sNil) sNil)) (sSeq (sSet 12 (eBin gIx (eVar 2) (eCall F__law_draw (aCons (eVar 1) (aCons (eInt 240) aNil))))) (sSeq (sSet 13 (eLc (iRg1 (aCons (eInt 8) aNil)) (tgN 16) bYes (eBin gAdd (eBin gIx (eBin gIx (eVar 7) (eInt 0)) (eVar 16)) (eBin gIx (eVar 12) (eVar 16))) [16])) (sSeq (sIf (bCmp gNe (eBin gEq (eCall F_is_nearest (aCons (eCB gList (aCons (eVar 5) aNil)) (aCons (eVar 13) aNil))) (eTup (aCons (eStr "nearest") aNil))) (eBin (gIn false) (eVar 13) (eVar 7))) (sSeq (sRet (eBl false)) sNil) sNil) (sSeq (sSet 14 (eLc (iRg1 (aCons (eInt 8) aNil)) (tgN 16) bYes (eBin gAdd (eBin gIx (eVar 4) (eVar 16)) (eBin gMul (eInt 2) (eBin gIx (eVar 12) (eVar 16)))) [16])) (sSeq (sIf (bOr (bCmp gNe (eCall F_rest_by_two (aCons (eVar 14) aNil)) (eVar 6)) (bOr (bCmp gNe (eCall F_sum_by_two (aCons (eVar 14) aNil)) (eCall F_sum_by_two (aCons (eCB gList (aCons (eVar 4) aNil)) aNil))) (bCmp gNe (eCall F_sum_by_two (aCons (eCB gList (aCons (eVar 4) aNil)) aNil)) (eBin gMod (eCB gInt (aCons (eBin gDiv (eCall F__law_product (aCons (eVar 4) (aCons (eVar 4) aNil))) (eInt 2)) aNil)) (eInt 2))))) (sSeq (sRet (eBl false)) sNil) sNil) sNil)))))))))))))))))) (sSeq (sRet (eAnd (eBin gEq (eCB gLen (aCons (eCall F_near_rows (aCons (eLst (aCons (eInt 2) (aCons (eInt 0) (aCons (eInt 0) (aCons (eInt 0) (aCons (eInt 0) (aCons (eInt 0) (aCons (eInt 0) (aCons (eInt 0) aNil))))))))) aNil)) aNil)) (eInt 16)) (eBin gEq (eCall F_near_rows (aCons (eLst (aCons (eInt 1) (aCons (eInt 1) (aCons (eInt 0) (aCons (eInt 0) (aCons (eInt 0) (aCons (eInt 0) (aCons (eInt 0) (aCons (eInt 0) aNil))))))))) aNil)) (eLst (aCons (eLst (aCons (eInt 0) (aCons (eInt 0) (aCons (eInt 0) (aCons (eInt 0) (aCons (eInt 0) (aCons (eInt 0) (aCons (eInt 0) (aCons (eInt 0) aNil))))))))) (aCons (eLst (aCons (eInt 2) (aCons (eInt 2) (aCons (eInt 0) (aCons (eInt 0) (aCons (eInt 0) (aCons (eInt 0) (aCons (eInt 0) (aCons (eInt 0) aNil))))))))) aNil)))))) sNil)))
section
variable {P : Program} {w : World} {K : PySem.W.Frag} {mg : Str → Option Value} {base : Heap} {cls : Str → Option (Addr × List Str)}
theorem ok_fault_of_kind {f : Addr} {fd : FuncData} (F : Fun K "fault_of_kind" "fault_of_kind" s_fault_of_kind f fd) (m_any : mg "any" = none) (m_sum : mg "sum" = none) (g_SIZE : ∃ t, mg "SIZE" = some (.int 8 t)) :
    FnOk P w K mg base (L2.CX P w) 1 f fd ["row"] (spF cls K [true] .o F_fault_of_kind) :=
  fn_sem F sc_fault_of_kind [true] rfl .o B_fault_of_kind fun cdv A outer s H E cf cZ cH s0 r0 hr => (
s_cons (own := [.p, .s]) (o1 := [.p, .s]) (s_if (on := [.p, .s]) (b_tru rfl (EX.o2p (x_any rfl rfl m_any (x_cons (EX.o2p (x_lc [("number", 1)] rfl sc_fault_of_kind.nd (by kernel_rfl) (i_seq rfl (x_var 0)) (fun _ _ _ _ _ => (g_name 1 sc_fault_of_kind.nd)) (fun _ _ _ _ _ => t_yes) (fun _ _ _ _ _ => (EX.o2s (x_ne rfl (hu64 hr) (EX.o2p (x_mod (EX.o2p (x_sub (x_var 1) (EX.s2p (x_ix rfl (x_var 0) (EX.o2p x_int))))) (EX.o2p x_int))) (EX.o2p x_int)))))) x_nil))))
 (s_cons (own := [.p, .s]) (s_ret (x_glob (v := .int 8) (hm := g_SIZE.choose_spec) (r := ⟨_, rfl⟩) (rd := fun _ _ _ => .int 8)))
  (s_nil (own := [.p, .s])))
 (s_nil))
  (s_cons (own := [.p, .s]) (o1 := [.p, .s]) (s_if (on := [.p, .s]) (b_ne rfl (hu64 hr) (EX.o2p (x_mod (EX.o2p (x_sum rfl rfl m_sum (x_cons (x_var 0) x_nil))) (EX.o2p x_int))) (EX.o2p x_int))
 (s_cons (own := [.p, .s]) (s_ret (x_add rfl (EX.o2p (x_glob (v := .int 8) (hm := g_SIZE.choose_spec) (r := ⟨_, rfl⟩) (rd := fun _ _ _ => .int 8))) (EX.o2p x_int)))
  (s_nil (own := [.p, .s])))
 (s_nil))
  (s_cons (own := [.p, .s]) (s_ret x_non)
  (s_nil (own := [.p, .s])))))
theorem ok_fault_of_row {f : Addr} {fd : FuncData} (F : Fun K "fault_of_row" "fault_of_row" s_fault_of_row f fd) (c_fault_of_kind : Cal P w K mg base cls "fault_of_kind" 1 [true] .o F_fault_of_kind) (m_len : mg "len" = none) (m_enumerate : mg "enumerate" = none) (g_SIZE : ∃ t, mg "SIZE" = some (.int 8 t)) (g_MOST_NUMBER : ∃ t, mg "MOST_NUMBER" = some (.int 99 t)) :
    FnOk P w K mg base (L2.CX P w) 2 f fd ["row"] (spF cls K [false] .s F_fault_of_row) :=
  fn_sem F sc_fault_of_row [false] rfl .s B_fault_of_row fun cdv A outer s H E cf cZ cH s0 r0 hr => (
s_cons (own := [.s, .s, .s]) (o1 := [.s, .s, .s]) (s_if (on := [.s, .s, .s]) (b_ne rfl (hu64 hr) (EX.o2p (x_len rfl m_len (x_cons (x_var 0) x_nil))) (EX.o2p (x_glob (v := .int 8) (hm := g_SIZE.choose_spec) (r := ⟨_, rfl⟩) (rd := fun _ _ _ => .int 8))))
 (s_cons (own := [.s, .s, .s]) (s_ret (EX.o2s (x_neg (EX.o2p x_int))))
  (s_nil (own := [.s, .s, .s])))
 (s_nil))
  (s_cons (own := [.s, .s, .s]) (o1 := [.s, .s, .s]) (s_for (own := [.s, .s, .s]) (o1 := [.s, .s, .s]) (passes_of rfl) rfl (i_enum rfl m_enumerate (x_cons (x_varS 0) x_nil)) (g_tup rfl rfl (gs_cons (g_name 1 sc_fault_of_row.nd) (gs_cons (g_name 2 sc_fault_of_row.nd) gs_nil)))
 (s_cons (own := [.s, .s, .s]) (o1 := [.s, .s, .s]) (s_if (on := [.s, .s, .s]) (b_not (b_ch op_le op_le gLe_ok gLe_ok (EX.o2p (x_neg (EX.o2p (x_glob (v := .int 99) (hm := g_MOST_NUMBER.choose_spec) (r := ⟨_, rfl⟩) (rd := fun _ _ _ => .int 99))))) (x_var 2) (EX.o2p (x_glob (v := .int 99) (hm := g_MOST_NUMBER.choose_spec) (r := ⟨_, rfl⟩) (rd := fun _ _ _ => .int 99)))))
 (s_cons (own := [.s, .s, .s]) (s_ret (x_varS 1))
  (s_nil (own := [.s, .s, .s])))
 (s_nil))
  (s_nil)))
  (s_cons (own := [.s, .s, .s]) (s_ret (EX.o2s (x_call rfl c_fault_of_kind (hr.mono (by decide)) (takes_of rfl rfl rfl rfl) (m_p (x_var 0) m_nil))))
  (s_nil (own := [.s, .s, .s])))))
theorem ok_row_product {f : Addr} {fd : FuncData} (F : Fun K "row_product" "row_product" s_row_product f fd) (m_sum : mg "sum" = none) (m_zip : mg "zip" = none) :
    FnOk P w K mg base (L2.CX P w) 1 f fd ["one", "other"] (spF cls K [true, true] .o F_row_product) :=
  fn_sem F sc_row_product [true, true] rfl .o B_row_product fun cdv A outer s H E cf cZ cH s0 r0 hr => (
s_cons (own := [.p, .p, .s, .s]) (s_ret (x_div (EX.o2p (x_sum rfl rfl m_sum (x_cons (EX.o2p (x_lc [("a", 2), ("b", 3)] rfl sc_row_product.nd (by kernel_rfl) (i_zip rfl m_zip (x_cons (x_var 0) (x_cons (x_var 1) x_nil))) (fun _ _ _ _ _ => (g_tup rfl rfl (gs_cons (g_name 2 sc_row_product.nd) (gs_cons (g_name 3 sc_row_product.nd) gs_nil)))) (fun _ _ _ _ _ => t_yes) (fun _ _ _ _ _ => (EX.o2s (x_mul (x_var 2) (x_var 3)))))) x_nil))) (EX.o2p x_int)))
  (s_nil (own := [.p, .p, .s, .s])))
theorem ok_row_square {f : Addr} {fd : FuncData} (F : Fun K "row_square" "row_square" s_row_square f fd) (c_row_product : Cal P w K mg base cls "row_product" 1 [true, true] .o F_row_product) :
    FnOk P w K mg base (L2.CX P w) 2 f fd ["row"] (spF cls K [true] .o F_row_square) :=
  fn_sem F sc_row_square [true] rfl .o B_row_square fun cdv A outer s H E cf cZ cH s0 r0 hr => (
s_cons (own := [.p]) (s_ret (x_call rfl c_row_product (hr.mono (by decide)) (takes_of rfl rfl rfl rfl) (m_p (x_var 0) (m_p (x_var 0) m_nil))))
  (s_nil (own := [.p])))
theorem ok_row_sum {f : Addr} {fd : FuncData} (F : Fun K "row_sum" "row_sum" s_row_sum f fd) (m_zip : mg "zip" = none) :
    FnOk P w K mg base (L2.CX P w) 1 f fd ["one", "other"] (spF cls K [true, true] .o F_row_sum) :=
  fn_sem F sc_row_sum [true, true] rfl .o B_row_sum fun cdv A outer s H E cf cZ cH s0 r0 hr => (
s_cons (own := [.p, .p, .s, .s]) (s_ret (x_lc [("a", 2), ("b", 3)] rfl sc_row_sum.nd (by kernel_rfl) (i_zip rfl m_zip (x_cons (x_var 0) (x_cons (x_var 1) x_nil))) (fun _ _ _ _ _ => (g_tup rfl rfl (gs_cons (g_name 2 sc_row_sum.nd) (gs_cons (g_name 3 sc_row_sum.nd) gs_nil)))) (fun _ _ _ _ _ => t_yes) (fun _ _ _ _ _ => (EX.o2s (x_add rfl (x_var 2) (x_var 3))))))
  (s_nil (own := [.p, .p, .s, .s])))
theorem ok_row_less {f : Addr} {fd : FuncData} (F : Fun K "row_less" "row_less" s_row_less f fd) (m_zip : mg "zip" = none) :
    FnOk P w K mg base (L2.CX P w) 1 f fd ["one", "other"] (spF cls K [true, true] .o F_row_less) :=
  fn_sem F sc_row_less [true, true] rfl .o B_row_less fun cdv A outer s H E cf cZ cH s0 r0 hr => (
s_cons (own := [.p, .p, .s, .s]) (s_ret (x_lc [("a", 2), ("b", 3)] rfl sc_row_less.nd (by kernel_rfl) (i_zip rfl m_zip (x_cons (x_var 0) (x_cons (x_var 1) x_nil))) (fun _ _ _ _ _ => (g_tup rfl rfl (gs_cons (g_name 2 sc_row_less.nd) (gs_cons (g_name 3 sc_row_less.nd) gs_nil)))) (fun _ _ _ _ _ => t_yes) (fun _ _ _ _ _ => (EX.o2s (x_sub (x_var 2) (x_var 3))))))
  (s_nil (own := [.p, .p, .s, .s])))
theorem ok_even_roots {f : Addr} {fd : FuncData} (F : Fun K "even_roots" "even_roots" s_even_roots f fd) (m_range : mg "range" = none) (g_SIZE : ∃ t, mg "SIZE" = some (.int 8 t)) :
    FnOk P w K mg base (L2.CX P w) 1 f fd [] (spF cls K [] .o F_even_roots) :=
  fn_sem F sc_even_roots [] rfl .o B_even_roots fun cdv A outer s H E cf cZ cH s0 r0 hr => (
s_cons (own := [.s, .s, .s, .s, .s, .s]) (o1 := [.o, .s, .s, .s, .s, .s]) (s_setO 0 sc_even_roots.nd (x_lst x_nil))
  (s_cons (own := [.o, .s, .s, .s, .s, .s]) (o1 := [.o, .s, .s, .s, .s, .s]) (s_for (own := [.o, .s, .s, .s, .s, .s]) (o1 := [.o, .s, .s, .s, .s, .s]) (passes_of rfl) rfl (i_range1 m_range (x_cons (EX.o2p (x_glob (v := .int 8) (hm := g_SIZE.choose_spec) (r := ⟨_, rfl⟩) (rd := fun _ _ _ => .int 8))) x_nil)) (g_name 1 sc_even_roots.nd)
 (s_cons (own := [.o, .s, .s, .s, .s, .s]) (o1 := [.o, .s, .s, .s, .s, .s]) (s_for (own := [.o, .s, .s, .s, .s, .s]) (o1 := [.o, .s, .s, .s, .s, .s]) (passes_of rfl) rfl (i_range1 m_range (x_cons (x_var 1) x_nil)) (g_name 2 sc_even_roots.nd)
 (s_cons (own := [.o, .s, .s, .s, .s, .s]) (o1 := [.o, .s, .s, .s, .s, .s]) (s_for (own := [.o, .s, .s, .s, .s, .s]) (o1 := [.o, .s, .s, .s, .s, .s]) (passes_of rfl) rfl (i_seq rfl (x_tup (x_cons (x_tup (x_cons (EX.o2s x_int) (x_cons (EX.o2s x_int) x_nil))) (x_cons (x_tup (x_cons (EX.o2s x_int) (x_cons (EX.o2s (x_neg (EX.o2p x_int))) x_nil))) (x_cons (x_tup (x_cons (EX.o2s (x_neg (EX.o2p x_int))) (x_cons (EX.o2s x_int) x_nil))) (x_cons (x_tup (x_cons (EX.o2s (x_neg (EX.o2p x_int))) (x_cons (EX.o2s (x_neg (EX.o2p x_int))) x_nil))) x_nil)))))) (g_tup rfl rfl (gs_cons (g_name 3 sc_even_roots.nd) (gs_cons (g_name 4 sc_even_roots.nd) gs_nil)))
 (s_cons (own := [.o, .s, .s, .s, .s, .s]) (o1 := [.o, .s, .s, .s, .s, .o]) (s_setO 5 sc_even_roots.nd (x_mul (EX.o2p (x_lst (x_cons (EX.o2s x_int) x_nil))) (EX.o2p (x_glob (v := .int 8) (hm := g_SIZE.choose_spec) (r := ⟨_, rfl⟩) (rd := fun _ _ _ => .int 8)))))
  (s_cons (own := [.o, .s, .s, .s, .s, .o]) (o1 := [.o, .s, .s, .s, .s, .o]) (s_put 5 (x_varS 3) (x_var 2))
  (s_cons (own := [.o, .s, .s, .s, .s, .o]) (o1 := [.o, .s, .s, .s, .s, .o]) (s_put 5 (x_varS 4) (x_var 1))
  (s_frz [5] (by decide) (s_cons (own := [.o, .s, .s, .s, .s, .s]) (o1 := [.o, .s, .s, .s, .s, .s]) (s_append 0 (x_varS 5))
  (s_nil)))))))
  (s_nil)))
  (s_nil)))
  (s_cons (own := [.o, .s, .s, .s, .s, .s]) (s_retN 0)
  (s_nil (own := [.o, .s, .s, .s, .s, .s])))))
theorem ok_odd_roots {f : Addr} {fd : FuncData} (F : Fun K "odd_roots" "odd_roots" s_odd_roots f fd) (m_range : mg "range" = none) (m_sum : mg "sum" = none) (g_SIZE : ∃ t, mg "SIZE" = some (.int 8 t)) :
    FnOk P w K mg base (L2.CX P w) 1 f fd [] (spF cls K [] .o F_odd_roots) :=
  fn_sem F sc_odd_roots [] rfl .o B_odd_roots fun cdv A outer s H E cf cZ cH s0 r0 hr => (
s_cons (own := [.s, .s, .s, .s]) (o1 := [.s, .s, .s, .s]) (s_setS 0 sc_odd_roots.nd (EX.o2s (x_lst (x_cons (EX.o2s (x_lst x_nil)) x_nil))))
  (s_cons (own := [.s, .s, .s, .s]) (o1 := [.s, .s, .s, .s]) (s_for (own := [.s, .s, .s, .s]) (o1 := [.s, .s, .s, .s]) (passes_of rfl) rfl (i_range1 m_range (x_cons (EX.o2p (x_glob (v := .int 8) (hm := g_SIZE.choose_spec) (r := ⟨_, rfl⟩) (rd := fun _ _ _ => .int 8))) x_nil)) (g_name 1 sc_odd_roots.nd)
 (s_end (on := [.o, .s, .s, .s]) [0] (by decide) (s_cons (own := [.s, .s, .s, .s]) (o1 := [.o, .s, .s, .s]) (s_setLc2 0 [("row", 2), ("sign", 3)] [3] rfl sc_odd_roots.nd (by kernel_rfl) (i_seq rfl (x_var 0)) (fun _ _ _ _ _ => (g_name 2 sc_odd_roots.nd)) (fun _ _ _ _ _ => t_yes) (fun _ _ _ _ _ => (i_seq rfl (x_tup (x_cons (EX.o2s (x_neg (EX.o2p x_int))) (x_cons (EX.o2s x_int) x_nil))))) (fun _ _ _ _ _ => (g_name 3 sc_odd_roots.nd)) (fun _ _ _ _ _ => t_yes) (fun _ _ _ _ _ => (EX.o2s (x_add rfl (x_var 2) (EX.o2p (x_lst (x_cons (x_varS 3) x_nil)))))))
  (s_nil))))
  (s_cons (own := [.s, .s, .s, .s]) (s_ret (x_lc [("row", 2)] rfl sc_odd_roots.nd (by kernel_rfl) (i_seq rfl (x_var 0)) (fun _ _ _ _ _ => (g_name 2 sc_odd_roots.nd)) (fun _ _ _ _ _ => (t_one (b_eq rfl (hu64 hr) (EX.o2p (x_mod (EX.o2p (x_sum rfl rfl m_sum (x_cons (x_var 2) x_nil))) (EX.o2p x_int))) (EX.o2p x_int)))) (fun _ _ _ _ _ => (x_varS 2))))
  (s_nil (own := [.s, .s, .s, .s])))))
theorem ok_all_roots {f : Addr} {fd : FuncData} (F : Fun K "all_roots" "all_roots" s_all_roots f fd) (c_even_roots : Cal P w K mg base cls "even_roots" 1 [] .o F_even_roots) (c_odd_roots : Cal P w K mg base cls "odd_roots" 1 [] .o F_odd_roots) (m_sorted : mg "sorted" = none) :
    FnOk P w K mg base (L2.CX P w) 2 f fd [] (spF cls K [] .o F_all_roots) :=
  fn_sem F sc_all_roots [] rfl .o B_all_roots fun cdv A outer s H E cf cZ cH s0 r0 hr => (
s_cons (own := []) (s_ret (x_sorted rfl (hu66 hr) m_sorted (x_cons (EX.o2p (x_add rfl (EX.o2p (x_call0 rfl c_even_roots (hr.mono (by decide)))) (EX.o2p (x_call0 rfl c_odd_roots (hr.mono (by decide)))))) x_nil)))
  (s_nil (own := [])))
theorem ok_is_root {f : Addr} {fd : FuncData} (F : Fun K "is_root" "is_root" s_is_root f fd) (c_fault_of_row : Cal P w K mg base cls "fault_of_row" 2 [false] .s F_fault_of_row) (c_row_square : Cal P w K mg base cls "row_square" 2 [true] .o F_row_square) :
    FnOk P w K mg base (L2.CX P w) 3 f fd ["row"] (spF cls K [false] .o F_is_root) :=
  fn_sem F sc_is_root [false] rfl .o B_is_root fun cdv A outer s H E cf cZ cH s0 r0 hr => (
s_cons (own := [.s]) (s_ret (x_and (EX.o2p (x_is (EX.s2p (x_call rfl c_fault_of_row (hr.mono (by decide)) (takes_of rfl rfl rfl rfl) (m_s (x_varS 0) m_nil))) (EX.o2p x_non))) (x_one (x_eq rfl (hu64 hr) (EX.o2p (x_call rfl c_row_square (hr.mono (by decide)) (takes_of rfl rfl rfl rfl) (m_p (x_var 0) m_nil))) (EX.o2p x_int)))))
  (s_nil (own := [.s])))
theorem ok_distance {f : Addr} {fd : FuncData} (F : Fun K "distance" "distance" s_distance f fd) (m_sum : mg "sum" = none) (m_zip : mg "zip" = none) :
    FnOk P w K mg base (L2.CX P w) 1 f fd ["point", "row"] (spF cls K [true, true] .o F_distance) :=
  fn_sem F sc_distance [true, true] rfl .o B_distance fun cdv A outer s H E cf cZ cH s0 r0 hr => (
s_cons (own := [.p, .p, .s, .s]) (s_ret (x_sum rfl rfl m_sum (x_cons (EX.o2p (x_lc [("a", 2), ("b", 3)] rfl sc_distance.nd (by kernel_rfl) (i_zip rfl m_zip (x_cons (x_var 0) (x_cons (x_var 1) x_nil))) (fun _ _ _ _ _ => (g_tup rfl rfl (gs_cons (g_name 2 sc_distance.nd) (gs_cons (g_name 3 sc_distance.nd) gs_nil)))) (fun _ _ _ _ _ => t_yes) (fun _ _ _ _ _ => (EX.o2s (x_mul (EX.o2p (x_sub (x_var 2) (x_var 3))) (EX.o2p (x_sub (x_var 2) (x_var 3)))))))) x_nil)))
  (s_nil (own := [.p, .p, .s, .s])))
theorem ok_steps_of_two {f : Addr} {fd : FuncData} (F : Fun K "steps_of_two" "steps_of_two" s_steps_of_two f fd) (m_range : mg "range" = none) (g_SIZE : ∃ t, mg "SIZE" = some (.int 8 t)) :
    FnOk P w K mg base (L2.CX P w) 1 f fd [] (spF cls K [] .o F_steps_of_two) :=
  fn_sem F sc_steps_of_two [] rfl .o B_steps_of_two fun cdv A outer s H E cf cZ cH s0 r0 hr => (
s_cons (own := [.s, .s, .s]) (o1 := [.o, .s, .s]) (s_setO 0 sc_steps_of_two.nd (x_lst x_nil))
  (s_cons (own := [.o, .s, .s]) (o1 := [.o, .s, .s]) (s_for (own := [.o, .s, .s]) (o1 := [.o, .s, .s]) (passes_of rfl) rfl (i_range1 m_range (x_cons (EX.o2p (x_glob (v := .int 8) (hm := g_SIZE.choose_spec) (r := ⟨_, rfl⟩) (rd := fun _ _ _ => .int 8))) x_nil)) (g_name 1 sc_steps_of_two.nd)
 (s_cons (own := [.o, .s, .s]) (o1 := [.o, .s, .s]) (s_for (own := [.o, .s, .s]) (o1 := [.o, .s, .s]) (passes_of rfl) rfl (i_seq rfl (x_tup (x_cons (EX.o2s x_int) (x_cons (EX.o2s (x_neg (EX.o2p x_int))) x_nil)))) (g_name 2 sc_steps_of_two.nd)
 (s_cons (own := [.o, .s, .s]) (o1 := [.o, .s, .s]) (s_append 0 (EX.o2s (x_add rfl (EX.o2p (x_add rfl (EX.o2p (x_mul (EX.o2p (x_lst (x_cons (EX.o2s x_int) x_nil))) (x_var 1))) (EX.o2p (x_lst (x_cons (x_varS 2) x_nil))))) (EX.o2p (x_mul (EX.o2p (x_lst (x_cons (EX.o2s x_int) x_nil))) (EX.o2p (x_sub (EX.o2p (x_sub (EX.o2p (x_glob (v := .int 8) (hm := g_SIZE.choose_spec) (r := ⟨_, rfl⟩) (rd := fun _ _ _ => .int 8))) (EX.o2p x_int))) (x_var 1))))))))
  (s_nil)))
  (s_nil)))
  (s_cons (own := [.o, .s, .s]) (s_retN 0)
  (s_nil (own := [.o, .s, .s])))))
theorem ok_near_of_kind {f : Addr} {fd : FuncData} (F : Fun K "near_of_kind" "near_of_kind" s_near_of_kind f fd) (c_steps_of_two : Cal P w K mg base cls "steps_of_two" 1 [] .o F_steps_of_two) (c_row_sum : Cal P w K mg base cls "row_sum" 1 [true, true] .o F_row_sum) (m_range : mg "range" = none) (m_list : mg "list" = none) (m_sum : mg "sum" = none) (g_SIZE : ∃ t, mg "SIZE" = some (.int 8 t)) :
    FnOk P w K mg base (L2.CX P w) 2 f fd ["point", "odd"] (spF cls K [true, true] .o F_near_of_kind) :=
  fn_sem F sc_near_of_kind [true, true] rfl .o B_near_of_kind fun cdv A outer s H E cf cZ cH s0 r0 hr => (
s_cons (own := [.p, .p, .s, .s, .s, .s, .s, .s]) (o1 := [.p, .p, .o, .s, .s, .s, .s, .s]) (s_setLc 2 [("at", 4)] rfl sc_near_of_kind.nd (by kernel_rfl) (i_range1 m_range (x_cons (EX.o2p (x_glob (v := .int 8) (hm := g_SIZE.choose_spec) (r := ⟨_, rfl⟩) (rd := fun _ _ _ => .int 8))) x_nil)) (fun _ _ _ _ _ => (g_name 4 sc_near_of_kind.nd)) (fun _ _ _ _ _ => (t_one (b_ne rfl (hu64 hr) (EX.o2p (x_mod (EX.o2p (x_sub (EX.s2p (x_ix rfl (x_var 0) (x_var 4))) (x_var 1))) (EX.o2p x_int))) (EX.o2p x_int)))) (fun _ _ _ _ _ => (x_varS 4)))
  (s_cons (own := [.p, .p, .o, .s, .s, .s, .s, .s]) (o1 := [.p, .p, .o, .s, .s, .s, .s, .s]) (s_setS 3 sc_near_of_kind.nd (EX.o2s (x_lst (x_cons (EX.o2s (x_list rfl m_list (x_cons (x_var 0) x_nil))) x_nil))))
  (s_cons (own := [.p, .p, .o, .s, .s, .s, .s, .s]) (o1 := [.p, .p, .o, .s, .s, .s, .s, .s]) (s_if (on := [.p, .p, .o, .s, .s, .s, .s, .s]) (b_pw (w_and (b_not (b_tru rfl (x_var 2))) (w_and1 (b_ne rfl (hu64 hr) (EX.o2p (x_mod (EX.o2p (x_sum rfl rfl m_sum (x_cons (x_var 0) x_nil))) (EX.o2p x_int))) (EX.o2p x_int)))))
 (s_cons (own := [.p, .p, .o, .s, .s, .s, .s, .s]) (s_ret (x_lc [("step", 5)] rfl sc_near_of_kind.nd (by kernel_rfl) (i_seq rfl (EX.o2p (x_call0 rfl c_steps_of_two (hr.mono (by decide))))) (fun _ _ _ _ _ => (g_name 5 sc_near_of_kind.nd)) (fun _ _ _ _ _ => t_yes) (fun _ _ _ _ _ => (EX.o2s (x_call rfl c_row_sum (hr.mono (by decide)) takes0 (m_p (x_var 0) (m_p (x_var 5) m_nil)))))))
  (s_nil (own := [.p, .p, .o, .s, .s, .s, .s, .s])))
 (s_nil))
  (s_frz [2] (by decide) (s_cons (own := [.p, .p, .s, .s, .s, .s, .s, .s]) (o1 := [.p, .p, .s, .s, .s, .s, .s, .s]) (s_for (own := [.p, .p, .s, .s, .s, .s, .s, .s]) (o1 := [.p, .p, .s, .s, .s, .s, .s, .s]) (passes_of rfl) rfl (i_seq rfl (x_varS 2)) (g_name 4 sc_near_of_kind.nd)
 (s_end (on := [.p, .p, .s, .o, .s, .s, .s, .s]) [3] (by decide) (s_cons (own := [.p, .p, .s, .s, .s, .s, .s, .s]) (o1 := [.p, .p, .s, .o, .s, .s, .s, .s]) (s_setLc2 3 [("row", 6), ("sign", 7)] [7] rfl sc_near_of_kind.nd (by kernel_rfl) (i_seq rfl (x_var 3)) (fun _ _ _ _ _ => (g_name 6 sc_near_of_kind.nd)) (fun _ _ _ _ _ => t_yes) (fun _ _ _ _ _ => (i_seq rfl (x_tup (x_cons (EX.o2s (x_neg (EX.o2p x_int))) (x_cons (EX.o2s x_int) x_nil))))) (fun _ _ _ _ _ => (g_name 7 sc_near_of_kind.nd)) (fun _ _ _ _ _ => t_yes) (fun _ _ _ _ _ => (EX.o2s (x_add rfl (EX.o2p (x_add rfl (EX.o2p (x_sl rfl (x_var 6) o_none (o_some (x_var 4)))) (EX.o2p (x_lst (x_cons (EX.o2s (x_add rfl (EX.s2p (x_ix rfl (x_var 6) (x_var 4))) (x_var 7))) x_nil))))) (EX.o2p (x_sl rfl (x_var 6) (o_some (EX.o2p (x_add rfl (x_var 4) (EX.o2p x_int)))) o_none))))))
  (s_nil))))
  (s_cons (own := [.p, .p, .s, .s, .s, .s, .s, .s]) (s_ret (x_lc [("row", 6)] rfl sc_near_of_kind.nd (by kernel_rfl) (i_seq rfl (x_var 3)) (fun _ _ _ _ _ => (g_name 6 sc_near_of_kind.nd)) (fun _ _ _ _ _ => (t_one (b_eq rfl (hu64 hr) (EX.o2p (x_mod (EX.o2p (x_sum rfl rfl m_sum (x_cons (x_var 6) x_nil))) (EX.o2p x_int))) (EX.o2p x_int)))) (fun _ _ _ _ _ => (x_varS 6))))
  (s_nil (own := [.p, .p, .s, .s, .s, .s, .s, .s]))))))))
theorem ok_near_rows {f : Addr} {fd : FuncData} (F : Fun K "near_rows" "near_rows" s_near_rows f fd) (c_near_of_kind : Cal P w K mg base cls "near_of_kind" 2 [true, true] .o F_near_of_kind) (c_distance : Cal P w K mg base cls "distance" 1 [true, true] .o F_distance) (m_min : mg "min" = none) (m_sorted : mg "sorted" = none) :
    FnOk P w K mg base (L2.CX P w) 3 f fd ["point"] (spF cls K [true] .o F_near_rows) :=
  fn_sem F sc_near_rows [true] rfl .o B_near_rows fun cdv A outer s H E cf cZ cH s0 r0 hr => (
s_cons (own := [.p, .s, .s, .s]) (o1 := [.p, .s, .s, .s]) (s_setS 1 sc_near_rows.nd (EX.o2s (x_add rfl (EX.o2p (x_call rfl c_near_of_kind (hr.mono (by decide)) (takes_of rfl rfl rfl rfl) (m_p (x_var 0) (m_p (EX.o2p x_int) m_nil)))) (EX.o2p (x_call rfl c_near_of_kind (hr.mono (by decide)) (takes_of rfl rfl rfl rfl) (m_p (x_var 0) (m_p (EX.o2p x_int) m_nil)))))))
  (s_cons (own := [.p, .s, .s, .s]) (o1 := [.p, .s, .s, .s]) (s_setS 2 sc_near_rows.nd (EX.o2s (x_min1 rfl rfl m_min (x_cons (EX.o2p (x_lc [("row", 3)] rfl sc_near_rows.nd (by kernel_rfl) (i_seq rfl (x_var 1)) (fun _ _ _ _ _ => (g_name 3 sc_near_rows.nd)) (fun _ _ _ _ _ => t_yes) (fun _ _ _ _ _ => (EX.o2s (x_call rfl c_distance (hr.mono (by decide)) takes0 (m_p (x_var 0) (m_p (x_var 3) m_nil))))))) x_nil))))
  (s_cons (own := [.p, .s, .s, .s]) (s_ret (x_sorted rfl (hu66 hr) m_sorted (x_cons (EX.o2p (x_lc [("row", 3)] rfl sc_near_rows.nd (by kernel_rfl) (i_seq rfl (x_var 1)) (fun _ _ _ _ _ => (g_name 3 sc_near_rows.nd)) (fun _ _ _ _ _ => (t_one (b_eq rfl (hu64 hr) (EX.o2p (x_call rfl c_distance (hr.mono (by decide)) takes0 (m_p (x_var 0) (m_p (x_var 3) m_nil)))) (x_var 2)))) (fun _ _ _ _ _ => (x_varS 3)))) x_nil)))
  (s_nil (own := [.p, .s, .s, .s])))))
theorem ok_nearest_row {f : Addr} {fd : FuncData} (F : Fun K "nearest_row" "nearest_row" s_nearest_row f fd) (c_near_rows : Cal P w K mg base cls "near_rows" 3 [true] .o F_near_rows) :
    FnOk P w K mg base (L2.CX P w) 4 f fd ["point"] (spF cls K [true] .s F_nearest_row) :=
  fn_sem F sc_nearest_row [true] rfl .s B_nearest_row fun cdv A outer s H E cf cZ cH s0 r0 hr => (
s_cons (own := [.p]) (s_ret (x_ix rfl (EX.o2p (x_call rfl c_near_rows (hr.mono (by decide)) (takes_of rfl rfl rfl rfl) (m_p (x_var 0) m_nil))) (EX.o2p x_int)))
  (s_nil (own := [.p])))
theorem ok_is_nearest {f : Addr} {fd : FuncData} (F : Fun K "is_nearest" "is_nearest" s_is_nearest f fd) (c_distance : Cal P w K mg base cls "distance" 1 [true, true] .o F_distance) (c_all_roots : Cal P w K mg base cls "all_roots" 2 [] .o F_all_roots) (c_row_sum : Cal P w K mg base cls "row_sum" 1 [true, true] .o F_row_sum) :
    FnOk P w K mg base (L2.CX P w) 3 f fd ["point", "row"] (spF cls K [true, true] .o F_is_nearest) :=
  fn_sem F sc_is_nearest [true, true] rfl .o B_is_nearest fun cdv A outer s H E cf cZ cH s0 r0 hr => (
s_cons (own := [.p, .p, .s, .s]) (o1 := [.p, .p, .s, .s]) (s_setS 2 sc_is_nearest.nd (EX.o2s (x_call rfl c_distance (hr.mono (by decide)) (takes_of rfl rfl rfl rfl) (m_p (x_var 0) (m_p (x_var 1) m_nil)))))
  (s_cons (own := [.p, .p, .s, .s]) (o1 := [.p, .p, .s, .s]) (s_for (own := [.p, .p, .s, .s]) (o1 := [.p, .p, .s, .s]) (passes_of rfl) rfl (i_seq rfl (EX.o2s (x_call0 rfl c_all_roots (hr.mono (by decide))))) (g_name 3 sc_is_nearest.nd)
 (s_cons (own := [.p, .p, .s, .s]) (o1 := [.p, .p, .s, .s]) (s_if (on := [.p, .p, .s, .s]) (b_ltA rfl (hu64 hr) (EX.o2p (x_call rfl c_distance (hr.mono (by decide)) (takes_of rfl rfl rfl rfl) (m_p (x_var 0) (m_p (EX.o2p (x_call rfl c_row_sum (hr.mono (by decide)) (takes_of rfl rfl rfl rfl) (m_p (x_var 1) (m_p (x_var 3) m_nil)))) m_nil)))) (x_var 2))
 (s_cons (own := [.p, .p, .s, .s]) (s_ret (x_tup (x_cons (EX.o2s x_str) (x_cons (x_varS 3) x_nil))))
  (s_nil (own := [.p, .p, .s, .s])))
 (s_nil))
  (s_nil)))
  (s_cons (own := [.p, .p, .s, .s]) (s_ret (x_tup (x_cons (EX.o2s x_str) x_nil)))
  (s_nil (own := [.p, .p, .s, .s])))))
theorem ok_is_twice {f : Addr} {fd : FuncData} (F : Fun K "is_twice" "is_twice" s_is_twice f fd) (c_fault_of_kind : Cal P w K mg base cls "fault_of_kind" 1 [true] .o F_fault_of_kind) (m_any : mg "any" = none) :
    FnOk P w K mg base (L2.CX P w) 2 f fd ["numbers"] (spF cls K [true] .o F_is_twice) :=
  fn_sem F sc_is_twice [true] rfl .o B_is_twice fun cdv A outer s H E cf cZ cH s0 r0 hr => (
s_cons (own := [.p, .s]) (o1 := [.p, .s]) (s_if (on := [.p, .s]) (b_tru rfl (EX.o2p (x_any rfl rfl m_any (x_cons (EX.o2p (x_lc [("number", 1)] rfl sc_is_twice.nd (by kernel_rfl) (i_seq rfl (x_var 0)) (fun _ _ _ _ _ => (g_name 1 sc_is_twice.nd)) (fun _ _ _ _ _ => t_yes) (fun _ _ _ _ _ => (EX.o2s (x_ne rfl (hu64 hr) (EX.o2p (x_mod (x_var 1) (EX.o2p x_int))) (EX.o2p x_int)))))) x_nil))))
 (s_cons (own := [.p, .s]) (s_ret x_bl)
  (s_nil (own := [.p, .s])))
 (s_nil))
  (s_cons (own := [.p, .s]) (s_ret (x_is (EX.o2p (x_call rfl c_fault_of_kind (hr.mono (by decide)) (takes_of rfl rfl rfl rfl) (m_p (EX.o2p (x_lc [("number", 1)] rfl sc_is_twice.nd (by kernel_rfl) (i_seq rfl (x_var 0)) (fun _ _ _ _ _ => (g_name 1 sc_is_twice.nd)) (fun _ _ _ _ _ => t_yes) (fun _ _ _ _ _ => (EX.o2s (x_div (x_var 1) (EX.o2p x_int)))))) m_nil))) (EX.o2p x_non)))
  (s_nil (own := [.p, .s]))))
theorem ok_lists_of {f : Addr} {fd : FuncData} (F : Fun K "lists_of" "lists_of" s_lists_of f fd) :
    FnOk P w K mg base (L2.CX P w) 1 f fd ["choices"] (spF cls K [true] .o F_lists_of) :=
  fn_sem F sc_lists_of [true] rfl .o B_lists_of fun cdv A outer s H E cf cZ cH s0 r0 hr => (
s_cons (own := [.p, .s, .s, .s, .s]) (o1 := [.p, .o, .s, .s, .s]) (s_setO 1 sc_lists_of.nd (x_lst (x_cons (EX.o2s (x_lst x_nil)) x_nil)))
  (s_cons (own := [.p, .o, .s, .s, .s]) (o1 := [.p, .o, .s, .s, .s]) (s_for (own := [.p, .o, .s, .s, .s]) (o1 := [.p, .o, .s, .s, .s]) (passes_of rfl) rfl (i_seqP 0 rfl) (g_name 2 sc_lists_of.nd)
 (s_cons (own := [.p, .o, .s, .s, .s]) (o1 := [.p, .o, .s, .s, .s]) (s_setLc2 1 [("row", 3), ("number", 4)] [4] rfl sc_lists_of.nd (by kernel_rfl) (i_seq rfl (x_var 1)) (fun _ _ _ _ _ => (g_name 3 sc_lists_of.nd)) (fun _ _ _ _ _ => t_yes) (fun _ _ _ _ _ => (i_seq rfl (x_varS 2))) (fun _ _ _ _ _ => (g_name 4 sc_lists_of.nd)) (fun _ _ _ _ _ => t_yes) (fun _ _ _ _ _ => (EX.o2s (x_add rfl (x_var 3) (EX.o2p (x_lst (x_cons (x_varS 4) x_nil)))))))
  (s_nil)))
  (s_cons (own := [.p, .o, .s, .s, .s]) (s_retN 1)
  (s_nil (own := [.p, .o, .s, .s, .s])))))
theorem ok_rows_with_residues {f : Addr} {fd : FuncData} (F : Fun K "rows_with_residues" "rows_with_residues" s_rows_with_residues f fd) (c_lists_of : Cal P w K mg base cls "lists_of" 1 [true] .o F_lists_of) (c_row_square : Cal P w K mg base cls "row_square" 2 [true] .o F_row_square) (m_sum : mg "sum" = none) (m_range : mg "range" = none) (g_RESIDUES : ∃ p, mg "RESIDUES" = some (.ref p) ∧ gdB K p [(0, .tup [.int 0]), (1, .tup [.int (-3), .int 1]), (2, .tup [.int (-2), .int 2]), (3, .tup [.int (-1), .int 3])] = true) (g_SIZE : ∃ t, mg "SIZE" = some (.int 8 t)) :
    FnOk P w K mg base (L2.CX P w) 3 f fd ["residues"] (spF cls K [true] .o F_rows_with_residues) :=
  fn_sem F sc_rows_with_residues [true] rfl .o B_rows_with_residues fun cdv A outer s H E cf cZ cH s0 r0 hr => (
s_cons (own := [.p, .s, .s, .s, .s, .s]) (o1 := [.p, .o, .s, .s, .s, .s]) (s_setLc 1 [("row", 3)] rfl sc_rows_with_residues.nd (by kernel_rfl) (i_seq rfl (EX.o2p (x_call rfl c_lists_of (hr.mono (by decide)) (takes_of rfl rfl rfl rfl) (m_p (EX.o2p (x_lc [("residue", 4)] rfl sc_rows_with_residues.nd (by kernel_rfl) (i_seq rfl (x_var 0)) (fun _ _ _ _ _ => (g_name 4 sc_rows_with_residues.nd)) (fun _ _ _ _ _ => t_yes) (fun _ _ _ _ _ => (x_gdix rfl g_RESIDUES.choose_spec.1 g_RESIDUES.choose_spec.2 (x_var 4))))) m_nil)))) (fun _ _ _ _ _ => (g_name 3 sc_rows_with_residues.nd)) (fun _ _ _ _ _ => (t_one (b_eq rfl (hu64 hr) (EX.o2p (x_call rfl c_row_square (hr.mono (by decide)) takes0 (m_p (x_var 3) m_nil))) (EX.o2p x_int)))) (fun _ _ _ _ _ => (x_varS 3)))
  (s_cons (own := [.p, .o, .s, .s, .s, .s]) (o1 := [.p, .o, .s, .s, .s, .s]) (s_if (on := [.p, .o, .s, .s, .s, .s]) (b_eq rfl (hu64 hr) (EX.o2p (x_sum rfl rfl m_sum (x_cons (x_var 0) x_nil))) (EX.o2p x_int))
 (s_cons (own := [.p, .o, .s, .s, .s, .s]) (o1 := [.p, .o, .s, .s, .s, .s]) (s_for (own := [.p, .o, .s, .s, .s, .s]) (o1 := [.p, .o, .s, .s, .s, .s]) (passes_of rfl) rfl (i_range1 m_range (x_cons (EX.o2p (x_glob (v := .int 8) (hm := g_SIZE.choose_spec) (r := ⟨_, rfl⟩) (rd := fun _ _ _ => .int 8))) x_nil)) (g_name 2 sc_rows_with_residues.nd)
 (s_cons (own := [.p, .o, .s, .s, .s, .s]) (o1 := [.p, .o, .s, .s, .s, .s]) (s_extend 1 (EX.o2p (x_lc [("number", 5)] rfl sc_rows_with_residues.nd (by kernel_rfl) (i_seq rfl (x_tup (x_cons (EX.o2s (x_neg (EX.o2p x_int))) (x_cons (EX.o2s x_int) x_nil)))) (fun _ _ _ _ _ => (g_name 5 sc_rows_with_residues.nd)) (fun _ _ _ _ _ => t_yes) (fun _ _ _ _ _ => (EX.o2s (x_add rfl (EX.o2p (x_add rfl (EX.o2p (x_mul (EX.o2p (x_lst (x_cons (EX.o2s x_int) x_nil))) (x_var 2))) (EX.o2p (x_lst (x_cons (x_varS 5) x_nil))))) (EX.o2p (x_mul (EX.o2p (x_lst (x_cons (EX.o2s x_int) x_nil))) (EX.o2p (x_sub (EX.o2p (x_sub (EX.o2p (x_glob (v := .int 8) (hm := g_SIZE.choose_spec) (r := ⟨_, rfl⟩) (rd := fun _ _ _ => .int 8))) (EX.o2p x_int))) (x_var 2)))))))))))
  (s_nil)))
  (s_nil))
 (s_nil))
  (s_cons (own := [.p, .o, .s, .s, .s, .s]) (s_retN 1)
  (s_nil (own := [.p, .o, .s, .s, .s, .s])))))
theorem ok_frame_of {f : Addr} {fd : FuncData} (F : Fun K "frame_of" "frame_of" s_frame_of f fd) (c_rows_with_residues : Cal P w K mg base cls "rows_with_residues" 3 [true] .o F_rows_with_residues) (c_is_twice : Cal P w K mg base cls "is_twice" 2 [true] .o F_is_twice) (c_row_less : Cal P w K mg base cls "row_less" 1 [true, true] .o F_row_less) (m_sorted : mg "sorted" = none) :
    FnOk P w K mg base (L2.CX P w) 4 f fd ["row"] (spF cls K [true] .o F_frame_of) :=
  fn_sem F sc_frame_of [true] rfl .o B_frame_of fun cdv A outer s H E cf cZ cH s0 r0 hr => (
s_cons (own := [.p, .s, .s, .s, .s]) (o1 := [.p, .o, .s, .s, .s]) (s_setO 1 sc_frame_of.nd (x_lst x_nil))
  (s_cons (own := [.p, .o, .s, .s, .s]) (o1 := [.p, .o, .s, .s, .s]) (s_for (own := [.p, .o, .s, .s, .s]) (o1 := [.p, .o, .s, .s, .s]) (passes_of rfl) rfl (i_seq rfl (x_tup (x_cons (EX.o2s x_int) (x_cons (EX.o2s x_int) x_nil)))) (g_name 2 sc_frame_of.nd)
 (s_cons (own := [.p, .o, .s, .s, .s]) (o1 := [.p, .o, .s, .s, .s]) (s_extend 1 (EX.o2p (x_call rfl c_rows_with_residues (hr.mono (by decide)) (takes_of rfl rfl rfl rfl) (m_p (EX.o2p (x_lc [("number", 3)] rfl sc_frame_of.nd (by kernel_rfl) (i_seq rfl (x_var 0)) (fun _ _ _ _ _ => (g_name 3 sc_frame_of.nd)) (fun _ _ _ _ _ => t_yes) (fun _ _ _ _ _ => (EX.o2s (x_mod (EX.o2p (x_add rfl (x_var 3) (x_var 2))) (EX.o2p x_int)))))) m_nil))))
  (s_nil)))
  (s_cons (own := [.p, .o, .s, .s, .s]) (s_ret (x_sorted rfl (hu66 hr) m_sorted (x_cons (EX.o2p (x_lc [("other", 4)] rfl sc_frame_of.nd (by kernel_rfl) (i_seq rfl (x_var 1)) (fun _ _ _ _ _ => (g_name 4 sc_frame_of.nd)) (fun _ _ _ _ _ => (t_one (b_tru rfl (EX.o2p (x_call rfl c_is_twice (hr.mono (by decide)) takes0 (m_p (EX.o2p (x_call rfl c_row_less (hr.mono (by decide)) takes0 (m_p (x_var 0) (m_p (x_var 4) m_nil)))) m_nil)))))) (fun _ _ _ _ _ => (x_varS 4)))) x_nil)))
  (s_nil (own := [.p, .o, .s, .s, .s])))))
theorem ok_rest_by_two {f : Addr} {fd : FuncData} (F : Fun K "rest_by_two" "rest_by_two" s_rest_by_two f fd) (c_is_twice : Cal P w K mg base cls "is_twice" 2 [true] .o F_is_twice) (c_all_roots : Cal P w K mg base cls "all_roots" 2 [] .o F_all_roots) (c_row_less : Cal P w K mg base cls "row_less" 1 [true, true] .o F_row_less) (c_frame_of : Cal P w K mg base cls "frame_of" 4 [true] .o F_frame_of) :
    FnOk P w K mg base (L2.CX P w) 5 f fd ["row"] (spF cls K [true] .o F_rest_by_two) :=
  fn_sem F sc_rest_by_two [true] rfl .o B_rest_by_two fun cdv A outer s H E cf cZ cH s0 r0 hr => (
s_cons (own := [.p, .s, .s]) (o1 := [.p, .s, .s]) (s_if (on := [.p, .s, .s]) (b_tru rfl (EX.o2p (x_call rfl c_is_twice (hr.mono (by decide)) (takes_of rfl rfl rfl rfl) (m_p (x_var 0) m_nil))))
 (s_cons (own := [.p, .s, .s]) (s_ret (x_tup (x_cons (EX.o2s x_str) x_nil)))
  (s_nil (own := [.p, .s, .s])))
 (s_nil))
  (s_cons (own := [.p, .s, .s]) (o1 := [.p, .o, .s]) (s_setLc 1 [("root", 2)] rfl sc_rest_by_two.nd (by kernel_rfl) (i_seq rfl (EX.o2p (x_call0 rfl c_all_roots (hr.mono (by decide))))) (fun _ _ _ _ _ => (g_name 2 sc_rest_by_two.nd)) (fun _ _ _ _ _ => (t_one (b_tru rfl (EX.o2p (x_call rfl c_is_twice (hr.mono (by decide)) takes0 (m_p (EX.o2p (x_call rfl c_row_less (hr.mono (by decide)) takes0 (m_p (x_var 0) (m_p (x_var 2) m_nil)))) m_nil)))))) (fun _ _ _ _ _ => (x_varS 2)))
  (s_cons (own := [.p, .o, .s]) (o1 := [.p, .o, .s]) (s_if (on := [.p, .o, .s]) (b_tru rfl (x_var 1))
 (s_cons (own := [.p, .o, .s]) (s_ret (x_tup (x_cons (EX.o2s x_str) (x_cons (x_ix rfl (x_var 1) (EX.o2p (x_neg (EX.o2p x_int)))) x_nil))))
  (s_nil (own := [.p, .o, .s])))
 (s_nil))
  (s_cons (own := [.p, .o, .s]) (s_ret (x_tup (x_cons (EX.o2s x_str) (x_cons (EX.o2s (x_call rfl c_frame_of (hr.mono (by decide)) (takes_of rfl rfl rfl rfl) (m_p (x_var 0) m_nil))) x_nil))))
  (s_nil (own := [.p, .o, .s]))))))
theorem ok_sum_by_two {f : Addr} {fd : FuncData} (F : Fun K "sum_by_two" "sum_by_two" s_sum_by_two f fd) (c_row_square : Cal P w K mg base cls "row_square" 2 [true] .o F_row_square) :
    FnOk P w K mg base (L2.CX P w) 3 f fd ["row"] (spF cls K [true] .o F_sum_by_two) :=
  fn_sem F sc_sum_by_two [true] rfl .o B_sum_by_two fun cdv A outer s H E cf cZ cH s0 r0 hr => (
s_cons (own := [.p]) (s_ret (x_mod (EX.o2p (x_div (EX.o2p (x_call rfl c_row_square (hr.mono (by decide)) (takes_of rfl rfl rfl rfl) (m_p (x_var 0) m_nil))) (EX.o2p x_int))) (EX.o2p x_int)))
  (s_nil (own := [.p])))
theorem ok__law_feed {f : Addr} {fd : FuncData} (F : Fun K "_law_feed" "_law_feed" s__law_feed f fd) (m_list : mg "list" = none) : FnOk P w K mg base (L2.CX P w) 1 f fd ["script"] (spFeed K) := by
  refine F.okX sc__law_feed (fun vs H Q E h => ?_) (fun cdv A outer s H vs Q E hr h => ?_)
  · obtain ⟨a, ns, rfl, _⟩ := h
    rfl
  · exact ⟨_, pss_cons (ps_ret (pe_lst (pa_cons (pe_callTy call_list_of (by rfl) m_list (by decide +kernel) (pa_cons (pv 0) pa_nil)) (pa_cons pe_int (pa_cons pe_int (pa_cons pe_int pa_nil)))))) pss_nil, feed_read h⟩

theorem ok__law_draw {f : Addr} {fd : FuncData} (F : Fun K "_law_draw" "_law_draw" s__law_draw f fd) (m_len : mg "len" = none) (m_abs : mg "abs" = none) (m_int : mg "int" = none) :
    FnOk P w K mg base (L2.CX P w) 1 f fd ["feed", "many"] (spF cls K [false, false] .s drawF) := by
  refine F.okX sc__law_draw (fun vs H Q E h => ?_) (fun cdv A outer s H vs Q E hr h => ?_)
  · obtain ⟨f, Z, ds, φ, _, rs, _⟩ := h
    exact rs.lens.1
  · refine ⟨tSeq (tDrawA K) (tDrawB K), pss_cons (ps_if (PW.pt (pw_and (pt_cmpR op_eq (pe_ix ix_list (pv 0) pe_int (fun _ _ => rfl)) pe_int (nomark _)) (pw_and1 (pt_cmpR op_lt (pe_ix ix_list (pv 0) pe_int (fun _ _ => rfl)) (pe_callB call_len_seq (by rfl) m_len PySem.boot_len (pa_cons (pe_ix ix_list (pv 0) pe_int (fun _ _ => rfl)) pa_nil)) (nomark _)))))
        (pss_cons (ps_set (i := 2) sc__law_draw.nd rfl (Or.inl rfl) (pe_callB call_abs (by rfl) m_abs (by decide +kernel) (pa_cons (pe_callTy call_int1 (by rfl) m_int (by decide +kernel) (pa_cons (pe_ix ix_list (pe_ix ix_list (pv 0) pe_int (fun _ _ => rfl)) (pe_ix ix_list (pv 0) pe_int (fun _ _ => rfl)) (fun _ _ => rfl)) pa_nil)) pa_nil)))
        (pss_cons (ps_augS (pv 0) pe_int get_lst pe_int ip_add set_list)
        (pss_one (ps_if (pt_cmpR op_ge (pv 2) (pe_op op_pow pe_int pe_int) (nomark _))
          (pss_one (ps_asg (pv 2) (pg_sub (pv 0) pe_int set_list)))
          (pss_one (ps_asg (pe_op op_mod (pe_callTy call_int1 (by rfl) m_int (by decide +kernel) (pa_cons (pe_op op_add (pe_op op_add (pe_op op_mul (pe_ix ix_list (pv 0) pe_int (fun _ _ => rfl)) pe_int) (pe_op op_mul (pv 2) pe_int)) (pe_ix ix_list (pv 0) pe_int (fun _ _ => rfl))) pa_nil)) pe_int) (pg_sub (pv 0) pe_int set_list)))))))
        pss_nil)
      (pss_cons (ps_if (pt_cmpR op_gt (pe_ix ix_list (pv 0) pe_int (fun _ _ => rfl)) pe_int (nomark _))
        (pss_cons (ps_set (i := 3) sc__law_draw.nd rfl (Or.inl rfl) (pe_op op_mod (pe_callTy call_int1 (by rfl) m_int (by decide +kernel) (pa_cons (pe_ix ix_list (pv 0) pe_int (fun _ _ => rfl)) pa_nil)) (pv 1)))
        (pss_cons (ps_asg (pe_op op_fdiv (pe_ix ix_list (pv 0) pe_int (fun _ _ => rfl)) (pv 1)) (pg_sub (pv 0) pe_int set_list))
        (pss_one (ps_ret (pv 3)))))
        pss_nil)
      (pss_cons (ps_asg (pe_op op_mod (pe_callTy call_int1 (by rfl) m_int (by decide +kernel) (pa_cons (pe_op op_add (pe_op op_mul (pe_ix ix_list (pv 0) pe_int (fun _ _ => rfl)) pe_int) pe_int) pa_nil)) pe_int) (pg_sub (pv 0) pe_int set_list))
      (pss_cons (ps_set (i := 4) sc__law_draw.nd rfl (Or.inl rfl) (pe_op op_mod (pe_callTy call_int1 (by rfl) m_int (by decide +kernel) (pa_cons (pe_op op_add (pe_op op_mul (pe_ix ix_list (pv 0) pe_int (fun _ _ => rfl)) (pe_ix ix_list (pv 0) pe_int (fun _ _ => rfl))) (pe_ix ix_list (pv 0) pe_int (fun _ _ => rfl))) pa_nil)) pe_int))
      (pss_one (ps_ret (pe_op op_mod (pe_op op_fdiv (pv 4) pe_int) (pv 1))))))), draw_read rfl h⟩

theorem ok__law_product {f : Addr} {fd : FuncData} (F : Fun K "_law_product" "_law_product" s__law_product f fd) (m_sum : mg "sum" = none) (m_range : mg "range" = none) :
    FnOk P w K mg base (L2.CX P w) 1 f fd ["one", "other"] (spF cls K [true, true] .o F__law_product) :=
  fn_sem F sc__law_product [true, true] rfl .o B__law_product fun cdv A outer s H E cf cZ cH s0 r0 hr => (
s_cons (own := [.p, .p, .s]) (s_ret (x_div (EX.o2p (x_sum rfl rfl m_sum (x_cons (EX.o2p (x_lc [("k", 2)] rfl sc__law_product.nd (by kernel_rfl) (i_range1 m_range (x_cons (EX.o2p x_int) x_nil)) (fun _ _ _ _ _ => (g_name 2 sc__law_product.nd)) (fun _ _ _ _ _ => t_yes) (fun _ _ _ _ _ => (EX.o2s (x_mul (EX.s2p (x_ix rfl (x_var 0) (x_var 2))) (EX.s2p (x_ix rfl (x_var 1) (x_var 2)))))))) x_nil))) (EX.o2p x_int)))
  (s_nil (own := [.p, .p, .s])))
theorem ok__law_roots {f : Addr} {fd : FuncData} (F : Fun K "_law_roots" "_law_roots" s__law_roots f fd) (m_range : mg "range" = none) (m_int : mg "int" = none) (m_sum : mg "sum" = none) (m_sorted : mg "sorted" = none) :
    FnOk P w K mg base (L2.CX P w) 1 f fd [] (spF cls K [] .o F__law_roots) :=
  fn_sem F sc__law_roots [] rfl .o B__law_roots fun cdv A outer s H E cf cZ cH s0 r0 hr => (
s_cons (own := [.s, .s, .s, .s, .s, .s, .s, .s]) (o1 := [.o, .s, .s, .s, .s, .s, .s, .s]) (s_setO 0 sc__law_roots.nd (x_lst x_nil))
  (s_cons (own := [.o, .s, .s, .s, .s, .s, .s, .s]) (o1 := [.o, .s, .s, .s, .s, .s, .s, .s]) (s_for (own := [.o, .s, .s, .s, .s, .s, .s, .s]) (o1 := [.o, .s, .s, .s, .s, .s, .s, .s]) (passes_of rfl) rfl (i_range1 m_range (x_cons (EX.o2p x_int) x_nil)) (g_name 1 sc__law_roots.nd)
 (s_cons (own := [.o, .s, .s, .s, .s, .s, .s, .s]) (o1 := [.o, .s, .o, .s, .s, .s, .s, .s]) (s_setLc 2 [("k", 7)] rfl sc__law_roots.nd (by kernel_rfl) (i_range1 m_range (x_cons (EX.o2p x_int) x_nil)) (fun _ _ _ _ _ => (g_name 7 sc__law_roots.nd)) (fun _ _ _ _ _ => t_yes) (fun _ _ _ _ _ => (EX.o2s (x_sub (EX.o2p x_int) (EX.o2p (x_mul (EX.o2p x_int) (EX.o2p (x_mod (EX.o2p (x_int1 m_int (x_cons (EX.o2p (x_div (x_var 1) (EX.s2p (x_ix rfl (EX.o2p (x_lst (x_cons (EX.o2s x_int) (x_cons (EX.o2s x_int) (x_cons (EX.o2s x_int) (x_cons (EX.o2s x_int) (x_cons (EX.o2s x_int) (x_cons (EX.o2s x_int) (x_cons (EX.o2s x_int) (x_cons (EX.o2s x_int) x_nil)))))))))) (x_var 7))))) x_nil))) (EX.o2p x_int)))))))))
  (s_cons (own := [.o, .s, .o, .s, .s, .s, .s, .s]) (o1 := [.o, .s, .s, .s, .s, .s, .s, .s]) (s_if (on := [.o, .s, .s, .s, .s, .s, .s, .s]) (b_eq rfl (hu64 hr) (EX.o2p (x_mod (EX.o2p (x_int1 m_int (x_cons (EX.o2p (x_sum rfl rfl m_sum (x_cons (x_var 2) x_nil))) x_nil))) (EX.o2p x_int))) (EX.o2p x_int))
 (s_frz [2] (by decide) (s_cons (own := [.o, .s, .s, .s, .s, .s, .s, .s]) (o1 := [.o, .s, .s, .s, .s, .s, .s, .s]) (s_append 0 (x_varS 2))
  (s_nil)))
 (s_end (on := [.o, .s, .o, .s, .s, .s, .s, .s]) [2] (by decide) (s_nil)))
  (s_nil))))
  (s_cons (own := [.o, .s, .s, .s, .s, .s, .s, .s]) (o1 := [.o, .s, .s, .s, .s, .s, .s, .s]) (s_for (own := [.o, .s, .s, .s, .s, .s, .s, .s]) (o1 := [.o, .s, .s, .s, .s, .s, .s, .s]) (passes_of rfl) rfl (i_range1 m_range (x_cons (EX.o2p x_int) x_nil)) (g_name 3 sc__law_roots.nd)
 (s_cons (own := [.o, .s, .s, .s, .s, .s, .s, .s]) (o1 := [.o, .s, .s, .s, .s, .s, .s, .s]) (s_for (own := [.o, .s, .s, .s, .s, .s, .s, .s]) (o1 := [.o, .s, .s, .s, .s, .s, .s, .s]) (passes_of rfl) rfl (i_range1 m_range (x_cons (x_var 3) x_nil)) (g_name 4 sc__law_roots.nd)
 (s_cons (own := [.o, .s, .s, .s, .s, .s, .s, .s]) (o1 := [.o, .s, .s, .s, .s, .s, .s, .s]) (s_for (own := [.o, .s, .s, .s, .s, .s, .s, .s]) (o1 := [.o, .s, .s, .s, .s, .s, .s, .s]) (passes_of rfl) rfl (i_seq rfl (EX.o2s (x_lst (x_cons (x_tup (x_cons (EX.o2s x_int) (x_cons (EX.o2s x_int) x_nil))) (x_cons (x_tup (x_cons (EX.o2s x_int) (x_cons (EX.o2s (x_neg (EX.o2p x_int))) x_nil))) (x_cons (x_tup (x_cons (EX.o2s (x_neg (EX.o2p x_int))) (x_cons (EX.o2s x_int) x_nil))) (x_cons (x_tup (x_cons (EX.o2s (x_neg (EX.o2p x_int))) (x_cons (EX.o2s (x_neg (EX.o2p x_int))) x_nil))) x_nil))))))) (g_tup rfl rfl (gs_cons (g_name 5 sc__law_roots.nd) (gs_cons (g_name 6 sc__law_roots.nd) gs_nil)))
 (s_cons (own := [.o, .s, .s, .s, .s, .s, .s, .s]) (o1 := [.o, .s, .s, .s, .s, .s, .s, .s]) (s_append 0 (EX.o2s (x_lc [("k", 7)] rfl sc__law_roots.nd (by kernel_rfl) (i_range1 m_range (x_cons (EX.o2p x_int) x_nil)) (fun _ _ _ _ _ => (g_name 7 sc__law_roots.nd)) (fun _ _ _ _ _ => t_yes) (fun _ _ _ _ _ => (x_dget (hu64 hr) (EX.o2p (x_dsp (px_cons (x_var 4) (x_varS 5) (px_cons (x_var 3) (x_varS 6) px_nil)))) (x_var 7) (EX.o2s x_int))))))
  (s_nil)))
  (s_nil)))
  (s_nil)))
  (s_cons (own := [.o, .s, .s, .s, .s, .s, .s, .s]) (s_ret (x_sorted rfl (hu66 hr) m_sorted (x_cons (x_var 0) x_nil)))
  (s_nil (own := [.o, .s, .s, .s, .s, .s, .s, .s]))))))
theorem ok__law_row {f : Addr} {fd : FuncData} (F : Fun K "_law_row" "_law_row" s__law_row f fd) (c__law_draw : Cal P w K mg base cls "_law_draw" 1 [false, false] .s F__law_draw) (m_range : mg "range" = none) :
    FnOk P w K mg base (L2.CX P w) 2 f fd ["feed", "roots", "many"] (spF cls K [false, true, true] .o F__law_row) :=
  fn_sem F sc__law_row [false, true, true] rfl .o B__law_row fun cdv A outer s H E cf cZ cH s0 r0 hr => (
s_cons (own := [.s, .p, .p, .s, .s, .s, .s]) (o1 := [.s, .p, .p, .o, .s, .s, .s]) (s_setO 3 sc__law_row.nd (x_lc [("k", 6)] rfl sc__law_row.nd (by kernel_rfl) (i_range1 m_range (x_cons (EX.o2p x_int) x_nil)) (fun _ _ _ _ _ => (g_name 6 sc__law_row.nd)) (fun _ _ _ _ _ => t_yes) (fun _ _ _ _ _ => (EX.o2s x_int))))
  (s_cons (own := [.s, .p, .p, .o, .s, .s, .s]) (o1 := [.s, .p, .p, .o, .s, .s, .s]) (s_for (own := [.s, .p, .p, .o, .s, .s, .s]) (o1 := [.s, .p, .p, .o, .s, .s, .s]) (passes_of rfl) rfl (i_range1 m_range (x_cons (x_var 2) x_nil)) (g_name 4 sc__law_row.nd)
 (s_cons (own := [.s, .p, .p, .o, .s, .s, .s]) (o1 := [.s, .p, .p, .o, .s, .s, .s]) (s_setS 5 sc__law_row.nd (x_ix rfl (x_var 1) (EX.s2p (x_call rfl c__law_draw (hr.mono (by decide)) (takes_of rfl rfl rfl rfl) (m_s (x_varS 0) (m_s (EX.o2s x_int) m_nil))))))
  (s_cons (own := [.s, .p, .p, .o, .s, .s, .s]) (o1 := [.s, .p, .p, .o, .s, .s, .s]) (s_setO 3 sc__law_row.nd (x_lc [("k", 6)] rfl sc__law_row.nd (by kernel_rfl) (i_range1 m_range (x_cons (EX.o2p x_int) x_nil)) (fun _ _ _ _ _ => (g_name 6 sc__law_row.nd)) (fun _ _ _ _ _ => t_yes) (fun _ _ _ _ _ => (EX.o2s (x_add rfl (EX.s2p (x_ix rfl (x_var 3) (x_var 6))) (EX.s2p (x_ix rfl (x_var 5) (x_var 6))))))))
  (s_nil))))
  (s_cons (own := [.s, .p, .p, .o, .s, .s, .s]) (s_retN 3)
  (s_nil (own := [.s, .p, .p, .o, .s, .s, .s])))))
theorem ok__law_even {f : Addr} {fd : FuncData} (F : Fun K "_law_even" "_law_even" s__law_even f fd) (c__law_draw : Cal P w K mg base cls "_law_draw" 1 [false, false] .s F__law_draw) (c__law_row : Cal P w K mg base cls "_law_row" 2 [false, true, true] .o F__law_row) (m_range : mg "range" = none) :
    FnOk P w K mg base (L2.CX P w) 3 f fd ["feed", "roots"] (spF cls K [false, true] .o F__law_even) :=
  fn_sem F sc__law_even [false, true] rfl .o B__law_even fun cdv A outer s H E cf cZ cH s0 r0 hr => (
s_cons (own := [.s, .p, .s, .s, .s, .s, .s, .s, .s]) (o1 := [.s, .p, .s, .s, .s, .s, .s, .s, .s]) (s_setS 2 sc__law_even.nd (x_call rfl c__law_draw (hr.mono (by decide)) (takes_of rfl rfl rfl rfl) (m_s (x_varS 0) (m_s (EX.o2s x_int) m_nil))))
  (s_cons (own := [.s, .p, .s, .s, .s, .s, .s, .s, .s]) (o1 := [.s, .p, .s, .o, .s, .s, .s, .s, .s]) (s_setLc 3 [("root", 6)] rfl sc__law_even.nd (by kernel_rfl) (i_seq rfl (x_var 1)) (fun _ _ _ _ _ => (g_name 6 sc__law_even.nd)) (fun _ _ _ _ _ => (t_one (b_eq rfl (hu64 hr) (EX.o2p (x_mod (EX.s2p (x_ix rfl (x_var 6) (EX.o2p x_int))) (EX.o2p x_int))) (EX.o2p x_int)))) (fun _ _ _ _ _ => (x_varS 6)))
  (s_cons (own := [.s, .p, .s, .o, .s, .s, .s, .s, .s]) (o1 := [.s, .p, .s, .o, .s, .s, .s, .s, .s]) (s_if (on := [.s, .p, .s, .o, .s, .s, .s, .s, .s]) (b_eq rfl (hu64 hr) (x_var 2) (EX.o2p x_int))
 (s_cons (own := [.s, .p, .s, .o, .s, .s, .s, .s, .s]) (s_ret (x_lc [("x", 7)] rfl sc__law_even.nd (by kernel_rfl) (i_seq rfl (EX.o2p (x_call rfl c__law_row (hr.mono (by decide)) (takes_of rfl rfl rfl rfl) (m_s (x_varS 0) (m_p (x_var 1) (m_p (EX.s2p (x_call rfl c__law_draw (hr.mono (by decide)) (takes_of rfl rfl rfl rfl) (m_s (x_varS 0) (m_s (EX.o2s x_int) m_nil)))) m_nil)))))) (fun _ _ _ _ _ => (g_name 7 sc__law_even.nd)) (fun _ _ _ _ _ => t_yes) (fun _ _ _ _ _ => (EX.o2s (x_mul (EX.o2p x_int) (x_var 7))))))
  (s_nil (own := [.s, .p, .s, .o, .s, .s, .s, .s, .s])))
 (s_nil))
  (s_cons (own := [.s, .p, .s, .o, .s, .s, .s, .s, .s]) (o1 := [.s, .p, .s, .o, .o, .s, .s, .s, .s]) (s_setO 4 sc__law_even.nd (x_lc [("k", 8)] rfl sc__law_even.nd (by kernel_rfl) (i_range1 m_range (x_cons (EX.o2p x_int) x_nil)) (fun _ _ _ _ _ => (g_name 8 sc__law_even.nd)) (fun _ _ _ _ _ => t_yes) (fun _ _ _ _ _ => (EX.o2s x_int))))
  (s_cons (own := [.s, .p, .s, .o, .o, .s, .s, .s, .s]) (o1 := [.s, .p, .s, .o, .o, .s, .s, .s, .s]) (s_for (own := [.s, .p, .s, .o, .o, .s, .s, .s, .s]) (o1 := [.s, .p, .s, .o, .o, .s, .s, .s, .s]) (passes_of rfl) rfl (i_range1 m_range (x_cons (x_var 2) x_nil)) (g_name 5 sc__law_even.nd)
 (s_cons (own := [.s, .p, .s, .o, .o, .s, .s, .s, .s]) (o1 := [.s, .p, .s, .o, .o, .s, .s, .s, .s]) (s_setS 6 sc__law_even.nd (x_ix rfl (x_var 3) (EX.s2p (x_call rfl c__law_draw (hr.mono (by decide)) (takes_of rfl rfl rfl rfl) (m_s (x_varS 0) (m_s (EX.o2s x_int) m_nil))))))
  (s_cons (own := [.s, .p, .s, .o, .o, .s, .s, .s, .s]) (o1 := [.s, .p, .s, .o, .o, .s, .s, .s, .s]) (s_setO 4 sc__law_even.nd (x_lc [("k", 8)] rfl sc__law_even.nd (by kernel_rfl) (i_range1 m_range (x_cons (EX.o2p x_int) x_nil)) (fun _ _ _ _ _ => (g_name 8 sc__law_even.nd)) (fun _ _ _ _ _ => t_yes) (fun _ _ _ _ _ => (EX.o2s (x_add rfl (EX.s2p (x_ix rfl (x_var 4) (x_var 8))) (EX.s2p (x_ix rfl (x_var 6) (x_var 8))))))))
  (s_nil))))
  (s_cons (own := [.s, .p, .s, .o, .o, .s, .s, .s, .s]) (s_retN 4)
  (s_nil (own := [.s, .p, .s, .o, .o, .s, .s, .s, .s]))))))))
theorem ok_law {f ff : Addr} {fd fdf : FuncData} (F : Fun K "law" "law" s_law f fd) (FF : Fun K "_law_feed" "_law_feed" s__law_feed ff fdf) (gF : mg "_law_feed" = some (.ref ff)) (bF : Binds K fdf ["script"] []) (m_list : mg "list" = none) (c__law_roots : Cal P w K mg base cls "_law_roots" 1 [] .o F__law_roots) (c__law_even : Cal P w K mg base cls "_law_even" 3 [false, true] .o F__law_even) (c_rest_by_two : Cal P w K mg base cls "rest_by_two" 5 [true] .o F_rest_by_two) (c_near_rows : Cal P w K mg base cls "near_rows" 3 [true] .o F_near_rows) (c_nearest_row : Cal P w K mg base cls "nearest_row" 4 [true] .s F_nearest_row) (c_is_root : Cal P w K mg base cls "is_root" 3 [false] .o F_is_root) (c_is_nearest : Cal P w K mg base cls "is_nearest" 3 [true, true] .o F_is_nearest) (c__law_draw : Cal P w K mg base cls "_law_draw" 1 [false, false] .s F__law_draw) (c_sum_by_two : Cal P w K mg base cls "sum_by_two" 3 [true] .o F_sum_by_two) (c__law_product : Cal P w K mg base cls "_law_product" 1 [true, true] .o F__law_product) (m_range : mg "range" = none) (m_len : mg "len" = none) (m_sorted : mg "sorted" = none) (m_int : mg "int" = none)
    (hB : ∀ φ : Fd, φ.Ok → ∃ φ', B_law ((List.replicate 17 none).set 1 (some .feed)) φ = .rt (.bl true) φ') :
    FnOk P w K mg base (L2.CX P w) 6 f fd ["script"] (spLaw K) :=
  law_sem (cls := cls) (j := 1) F sc_law .s B_law rfl (by decide) (by decide) (fun cdv A outer s H E hr => ps_set (i := 1) sc_law.nd rfl (Or.inl rfl) (pe_call (ok__law_feed FF m_list) (hr.mono (by decide)) (by rfl) gF FF.kp bF .nil passL (pa_cons (pv 0) pa_nil)))
   (fun cdv A outer s H E cf cZ cH s0 r0 hr => (
s_cons (own := [.s, .s, .s, .s, .s, .s, .s, .s, .s, .s, .s, .s, .s, .s, .s, .s, .s]) (o1 := [.s, .s, .s, .s, .s, .s, .s, .s, .s, .s, .s, .s, .s, .s, .s, .s, .s]) (s_setS 2 sc_law.nd (EX.o2s (x_call0 rfl c__law_roots (hr.mono (by decide)))))
  (s_cons (own := [.s, .s, .s, .s, .s, .s, .s, .s, .s, .s, .s, .s, .s, .s, .s, .s, .s]) (o1 := [.s, .s, .s, .s, .s, .s, .s, .s, .s, .s, .s, .s, .s, .s, .s, .s, .s]) (s_for (own := [.s, .s, .s, .s, .s, .s, .s, .s, .s, .s, .s, .s, .s, .s, .s, .s, .s]) (o1 := [.s, .s, .s, .s, .s, .s, .s, .s, .s, .s, .s, .s, .s, .s, .s, .s, .s]) (passes_of rfl) rfl (i_range1 m_range (x_cons (EX.o2p x_int) x_nil)) (g_name 3 sc_law.nd)
 (s_end (on := [.s, .s, .s, .s, .s, .o, .s, .s, .s, .s, .s, .s, .s, .o, .o, .s, .s]) [5, 13, 14] (by decide) (s_cons (own := [.s, .s, .s, .s, .s, .s, .s, .s, .s, .s, .s, .s, .s, .s, .s, .s, .s]) (o1 := [.s, .s, .s, .s, .s, .s, .s, .s, .s, .s, .s, .s, .s, .s, .s, .s, .s]) (s_setS 4 sc_law.nd (EX.o2s (x_call rfl c__law_even (hr.mono (by decide)) (takes_of rfl rfl rfl rfl) (m_s (x_varS 1) (m_p (x_var 2) m_nil)))))
  (s_cons (own := [.s, .s, .s, .s, .s, .s, .s, .s, .s, .s, .s, .s, .s, .s, .s, .s, .s]) (o1 := [.s, .s, .s, .s, .s, .o, .s, .s, .s, .s, .s, .s, .s, .s, .s, .s, .s]) (s_setLc 5 [("x", 15)] rfl sc_law.nd (by kernel_rfl) (i_seq rfl (x_var 4)) (fun _ _ _ _ _ => (g_name 15 sc_law.nd)) (fun _ _ _ _ _ => t_yes) (fun _ _ _ _ _ => (EX.o2s (x_div (x_var 15) (EX.o2p x_int)))))
  (s_cons (own := [.s, .s, .s, .s, .s, .o, .s, .s, .s, .s, .s, .s, .s, .s, .s, .s, .s]) (o1 := [.s, .s, .s, .s, .s, .o, .s, .s, .s, .s, .s, .s, .s, .s, .s, .s, .s]) (s_setS 6 sc_law.nd (EX.o2s (x_call rfl c_rest_by_two (hr.mono (by decide)) (takes_of rfl rfl rfl rfl) (m_p (EX.o2p (x_list rfl m_list (x_cons (x_var 4) x_nil))) m_nil))))
  (s_cons (own := [.s, .s, .s, .s, .s, .o, .s, .s, .s, .s, .s, .s, .s, .s, .s, .s, .s]) (o1 := [.s, .s, .s, .s, .s, .o, .s, .s, .s, .s, .s, .s, .s, .s, .s, .s, .s]) (s_setS 7 sc_law.nd (EX.o2s (x_call rfl c_near_rows (hr.mono (by decide)) (takes_of rfl rfl rfl rfl) (m_p (EX.o2p (x_list rfl m_list (x_cons (x_var 5) x_nil))) m_nil))))
  (s_cons (own := [.s, .s, .s, .s, .s, .o, .s, .s, .s, .s, .s, .s, .s, .s, .s, .s, .s]) (o1 := [.s, .s, .s, .s, .s, .o, .s, .s, .s, .s, .s, .s, .s, .s, .s, .s, .s]) (s_setS 8 sc_law.nd (x_dix (hu64 hr) (EX.o2p (x_dsp (px_cons (EX.o2p x_str) (EX.o2s x_int) (px_cons (EX.o2p x_str) (EX.o2s x_int) (px_cons (EX.o2p x_str) (EX.o2s x_int) px_nil))))) (EX.s2p (x_ix rfl (x_var 6) (EX.o2p x_int)))))
  (s_cons (own := [.s, .s, .s, .s, .s, .o, .s, .s, .s, .s, .s, .s, .s, .s, .s, .s, .s]) (o1 := [.s, .s, .s, .s, .s, .o, .s, .s, .s, .s, .s, .s, .s, .s, .s, .s, .s]) (s_if (on := [.s, .s, .s, .s, .s, .o, .s, .s, .s, .s, .s, .s, .s, .s, .s, .s, .s]) (b_pw (w_or (b_ne rfl (hu64 hr) (EX.o2p (x_len rfl m_len (x_cons (x_var 7) x_nil))) (x_var 8)) (w_or (b_ne rfl (hu64 hr) (x_var 7) (EX.o2p (x_sorted rfl (hu66 hr) m_sorted (x_cons (x_var 7) x_nil)))) (w_or1 (b_ne rfl (hu64 hr) (EX.s2p (x_call rfl c_nearest_row (hr.mono (by decide)) (takes_of rfl rfl rfl rfl) (m_p (EX.o2p (x_list rfl m_list (x_cons (x_var 5) x_nil))) m_nil))) (EX.s2p (x_ix rfl (x_var 7) (EX.o2p x_int))))))))
 (s_cons (own := [.s, .s, .s, .s, .s, .o, .s, .s, .s, .s, .s, .s, .s, .s, .s, .s, .s]) (s_ret (EX.o2s x_bl))
  (s_nil (own := [.s, .s, .s, .s, .s, .o, .s, .s, .s, .s, .s, .s, .s, .s, .s, .s, .s])))
 (s_nil))
  (s_cons (own := [.s, .s, .s, .s, .s, .o, .s, .s, .s, .s, .s, .s, .s, .s, .s, .s, .s]) (o1 := [.s, .s, .s, .s, .s, .o, .s, .s, .s, .s, .s, .s, .s, .s, .s, .s, .s]) (s_setS 9 sc_law.nd (EX.o2s (x_lst (x_cons (EX.o2s (x_lc [("k", 16)] rfl sc_law.nd (by kernel_rfl) (i_range1 m_range (x_cons (EX.o2p x_int) x_nil)) (fun _ _ _ _ _ => (g_name 16 sc_law.nd)) (fun _ _ _ _ _ => t_yes) (fun _ _ _ _ _ => (EX.o2s x_int)))) x_nil))))
  (s_cons (own := [.s, .s, .s, .s, .s, .o, .s, .s, .s, .s, .s, .s, .s, .s, .s, .s, .s]) (o1 := [.s, .s, .s, .s, .s, .o, .s, .s, .s, .s, .s, .s, .s, .s, .s, .s, .s]) (s_if (on := [.s, .s, .s, .s, .s, .o, .s, .s, .s, .s, .s, .s, .s, .s, .s, .s, .s]) (b_eq rfl (hu64 hr) (EX.s2p (x_ix rfl (x_var 6) (EX.o2p x_int))) (EX.o2p x_str))
 (s_cons (own := [.s, .s, .s, .s, .s, .o, .s, .s, .s, .s, .s, .s, .s, .s, .s, .s, .s]) (o1 := [.s, .s, .s, .s, .s, .o, .s, .s, .s, .s, .s, .s, .s, .s, .s, .s, .s]) (s_setS 9 sc_law.nd (EX.o2s (x_lst (x_cons (x_ix rfl (x_var 6) (EX.o2p x_int)) (x_cons (EX.o2s (x_lc [("x", 15)] rfl sc_law.nd (by kernel_rfl) (i_seq rfl (EX.s2p (x_ix rfl (x_var 6) (EX.o2p x_int)))) (fun _ _ _ _ _ => (g_name 15 sc_law.nd)) (fun _ _ _ _ _ => t_yes) (fun _ _ _ _ _ => (EX.o2s (x_neg (x_var 15)))))) x_nil)))))
  (s_cons (own := [.s, .s, .s, .s, .s, .o, .s, .s, .s, .s, .s, .s, .s, .s, .s, .s, .s]) (o1 := [.s, .s, .s, .s, .s, .o, .s, .s, .s, .s, .s, .s, .s, .s, .s, .s, .s]) (s_if (on := [.s, .s, .s, .s, .s, .o, .s, .s, .s, .s, .s, .s, .s, .s, .s, .s, .s]) (b_isnotB (EX.o2p (x_call rfl c_is_root (hr.mono (by decide)) (takes_of rfl rfl rfl rfl) (m_s (EX.o2s (x_list rfl m_list (x_cons (EX.s2p (x_ix rfl (x_var 6) (EX.o2p x_int))) x_nil))) m_nil))) (EX.o2p x_bl))
 (s_cons (own := [.s, .s, .s, .s, .s, .o, .s, .s, .s, .s, .s, .s, .s, .s, .s, .s, .s]) (s_ret (EX.o2s x_bl))
  (s_nil (own := [.s, .s, .s, .s, .s, .o, .s, .s, .s, .s, .s, .s, .s, .s, .s, .s, .s])))
 (s_nil))
  (s_nil)))
 (s_nil))
  (s_cons (own := [.s, .s, .s, .s, .s, .o, .s, .s, .s, .s, .s, .s, .s, .s, .s, .s, .s]) (o1 := [.s, .s, .s, .s, .s, .o, .s, .s, .s, .s, .s, .s, .s, .s, .s, .s, .s]) (s_if (on := [.s, .s, .s, .s, .s, .o, .s, .s, .s, .s, .s, .s, .s, .s, .s, .s, .s]) (b_eq rfl (hu64 hr) (EX.s2p (x_ix rfl (x_var 6) (EX.o2p x_int))) (EX.o2p x_str))
 (s_cons (own := [.s, .s, .s, .s, .s, .o, .s, .s, .s, .s, .s, .s, .s, .s, .s, .s, .s]) (o1 := [.s, .s, .s, .s, .s, .o, .s, .s, .s, .s, .s, .s, .s, .s, .s, .s, .s]) (s_setS 9 sc_law.nd (x_ix rfl (x_var 6) (EX.o2p x_int)))
  (s_nil))
 (s_nil))
  (s_cons (own := [.s, .s, .s, .s, .s, .o, .s, .s, .s, .s, .s, .s, .s, .s, .s, .s, .s]) (o1 := [.s, .s, .s, .s, .s, .o, .s, .s, .s, .s, .s, .s, .s, .s, .s, .s, .s]) (s_setS 10 sc_law.nd (EX.o2s (x_sorted rfl (hu66 hr) m_sorted (x_cons (EX.o2p (x_lc [("one", 11)] rfl sc_law.nd (by kernel_rfl) (i_seq rfl (x_var 9)) (fun _ _ _ _ _ => (g_name 11 sc_law.nd)) (fun _ _ _ _ _ => t_yes) (fun _ _ _ _ _ => (EX.o2s (x_lc [("k", 16)] rfl sc_law.nd (by kernel_rfl) (i_range1 m_range (x_cons (EX.o2p x_int) x_nil)) (fun _ _ _ _ _ => (g_name 16 sc_law.nd)) (fun _ _ _ _ _ => t_yes) (fun _ _ _ _ _ => (EX.o2s (x_div (EX.o2p (x_add rfl (EX.s2p (x_ix rfl (x_var 4) (x_var 16))) (EX.s2p (x_ix rfl (x_var 11) (x_var 16))))) (EX.o2p x_int))))))))) x_nil))))
  (s_cons (own := [.s, .s, .s, .s, .s, .o, .s, .s, .s, .s, .s, .s, .s, .s, .s, .s, .s]) (o1 := [.s, .s, .s, .s, .s, .o, .s, .s, .s, .s, .s, .s, .s, .s, .s, .s, .s]) (s_if (on := [.s, .s, .s, .s, .s, .o, .s, .s, .s, .s, .s, .s, .s, .s, .s, .s, .s]) (b_ne rfl (hu64 hr) (x_var 7) (x_var 10))
 (s_cons (own := [.s, .s, .s, .s, .s, .o, .s, .s, .s, .s, .s, .s, .s, .s, .s, .s, .s]) (s_ret (EX.o2s x_bl))
  (s_nil (own := [.s, .s, .s, .s, .s, .o, .s, .s, .s, .s, .s, .s, .s, .s, .s, .s, .s])))
 (s_nil))
  (s_cons (own := [.s, .s, .s, .s, .s, .o, .s, .s, .s, .s, .s, .s, .s, .s, .s, .s, .s]) (o1 := [.s, .s, .s, .s, .s, .o, .s, .s, .s, .s, .s, .s, .s, .s, .s, .s, .s]) (s_for (own := [.s, .s, .s, .s, .s, .o, .s, .s, .s, .s, .s, .s, .s, .s, .s, .s, .s]) (o1 := [.s, .s, .s, .s, .s, .o, .s, .s, .s, .s, .s, .s, .s, .s, .s, .s, .s]) (passes_of rfl) rfl (i_seq rfl (EX.o2s (x_sl rfl (x_var 7) o_none (o_some (EX.o2p x_int))))) (g_name 11 sc_law.nd)
 (s_cons (own := [.s, .s, .s, .s, .s, .o, .s, .s, .s, .s, .s, .s, .s, .s, .s, .s, .s]) (o1 := [.s, .s, .s, .s, .s, .o, .s, .s, .s, .s, .s, .s, .s, .s, .s, .s, .s]) (s_if (on := [.s, .s, .s, .s, .s, .o, .s, .s, .s, .s, .s, .s, .s, .s, .s, .s, .s]) (b_ne rfl (hu64 hr) (EX.o2p (x_call rfl c_is_nearest (hr.mono (by decide)) (takes_of rfl rfl rfl rfl) (m_p (EX.o2p (x_list rfl m_list (x_cons (x_var 5) x_nil))) (m_p (EX.o2p (x_list rfl m_list (x_cons (x_var 11) x_nil))) m_nil)))) (x_tup (x_cons (EX.o2s x_str) x_nil)))
 (s_cons (own := [.s, .s, .s, .s, .s, .o, .s, .s, .s, .s, .s, .s, .s, .s, .s, .s, .s]) (s_ret (EX.o2s x_bl))
  (s_nil (own := [.s, .s, .s, .s, .s, .o, .s, .s, .s, .s, .s, .s, .s, .s, .s, .s, .s])))
 (s_nil))
  (s_nil)))
  (s_cons (own := [.s, .s, .s, .s, .s, .o, .s, .s, .s, .s, .s, .s, .s, .s, .s, .s, .s]) (o1 := [.s, .s, .s, .s, .s, .o, .s, .s, .s, .s, .s, .s, .s, .s, .s, .s, .s]) (s_setS 12 sc_law.nd (x_ix rfl (x_var 2) (EX.s2p (x_call rfl c__law_draw (hr.mono (by decide)) (takes_of rfl rfl rfl rfl) (m_s (x_varS 1) (m_s (EX.o2s x_int) m_nil))))))
  (s_cons (own := [.s, .s, .s, .s, .s, .o, .s, .s, .s, .s, .s, .s, .s, .s, .s, .s, .s]) (o1 := [.s, .s, .s, .s, .s, .o, .s, .s, .s, .s, .s, .s, .s, .o, .s, .s, .s]) (s_setLc 13 [("k", 16)] rfl sc_law.nd (by kernel_rfl) (i_range1 m_range (x_cons (EX.o2p x_int) x_nil)) (fun _ _ _ _ _ => (g_name 16 sc_law.nd)) (fun _ _ _ _ _ => t_yes) (fun _ _ _ _ _ => (EX.o2s (x_add rfl (EX.s2p (x_ix rfl (EX.s2p (x_ix rfl (x_var 7) (EX.o2p x_int))) (x_var 16))) (EX.s2p (x_ix rfl (x_var 12) (x_var 16)))))))
  (s_cons (own := [.s, .s, .s, .s, .s, .o, .s, .s, .s, .s, .s, .s, .s, .o, .s, .s, .s]) (o1 := [.s, .s, .s, .s, .s, .o, .s, .s, .s, .s, .s, .s, .s, .o, .s, .s, .s]) (s_if (on := [.s, .s, .s, .s, .s, .o, .s, .s, .s, .s, .s, .s, .s, .o, .s, .s, .s]) (b_ne rfl (hu64 hr) (EX.o2p (x_eq rfl (hu64 hr) (EX.o2p (x_call rfl c_is_nearest (hr.mono (by decide)) (takes_of rfl rfl rfl rfl) (m_p (EX.o2p (x_list rfl m_list (x_cons (x_var 5) x_nil))) (m_p (x_var 13) m_nil)))) (x_tup (x_cons (EX.o2s x_str) x_nil)))) (EX.o2p (x_in rfl (hu65 hr) (x_var 13) (x_var 7))))
 (s_cons (own := [.s, .s, .s, .s, .s, .o, .s, .s, .s, .s, .s, .s, .s, .o, .s, .s, .s]) (s_ret (EX.o2s x_bl))
  (s_nil (own := [.s, .s, .s, .s, .s, .o, .s, .s, .s, .s, .s, .s, .s, .o, .s, .s, .s])))
 (s_nil))
  (s_cons (own := [.s, .s, .s, .s, .s, .o, .s, .s, .s, .s, .s, .s, .s, .o, .s, .s, .s]) (o1 := [.s, .s, .s, .s, .s, .o, .s, .s, .s, .s, .s, .s, .s, .o, .o, .s, .s]) (s_setLc 14 [("k", 16)] rfl sc_law.nd (by kernel_rfl) (i_range1 m_range (x_cons (EX.o2p x_int) x_nil)) (fun _ _ _ _ _ => (g_name 16 sc_law.nd)) (fun _ _ _ _ _ => t_yes) (fun _ _ _ _ _ => (EX.o2s (x_add rfl (EX.s2p (x_ix rfl (x_var 4) (x_var 16))) (EX.o2p (x_mul (EX.o2p x_int) (EX.s2p (x_ix rfl (x_var 12) (x_var 16)))))))))
  (s_cons (own := [.s, .s, .s, .s, .s, .o, .s, .s, .s, .s, .s, .s, .s, .o, .o, .s, .s]) (o1 := [.s, .s, .s, .s, .s, .o, .s, .s, .s, .s, .s, .s, .s, .o, .o, .s, .s]) (s_if (on := [.s, .s, .s, .s, .s, .o, .s, .s, .s, .s, .s, .s, .s, .o, .o, .s, .s]) (b_pw (w_or (b_ne rfl (hu64 hr) (EX.o2p (x_call rfl c_rest_by_two (hr.mono (by decide)) (takes_of rfl rfl rfl rfl) (m_p (x_var 14) m_nil))) (x_var 6)) (w_or (b_ne rfl (hu64 hr) (EX.o2p (x_call rfl c_sum_by_two (hr.mono (by decide)) (takes_of rfl rfl rfl rfl) (m_p (x_var 14) m_nil))) (EX.o2p (x_call rfl c_sum_by_two (hr.mono (by decide)) (takes_of rfl rfl rfl rfl) (m_p (EX.o2p (x_list rfl m_list (x_cons (x_var 4) x_nil))) m_nil)))) (w_or1 (b_ne rfl (hu64 hr) (EX.o2p (x_call rfl c_sum_by_two (hr.mono (by decide)) (takes_of rfl rfl rfl rfl) (m_p (EX.o2p (x_list rfl m_list (x_cons (x_var 4) x_nil))) m_nil))) (EX.o2p (x_mod (EX.o2p (x_int1 m_int (x_cons (EX.o2p (x_div (EX.o2p (x_call rfl c__law_product (hr.mono (by decide)) (takes_of rfl rfl rfl rfl) (m_p (x_var 4) (m_p (x_var 4) m_nil)))) (EX.o2p x_int))) x_nil))) (EX.o2p x_int))))))))
 (s_cons (own := [.s, .s, .s, .s, .s, .o, .s, .s, .s, .s, .s, .s, .s, .o, .o, .s, .s]) (s_ret (EX.o2s x_bl))
  (s_nil (own := [.s, .s, .s, .s, .s, .o, .s, .s, .s, .s, .s, .s, .s, .o, .o, .s, .s])))
 (s_nil))
  (s_nil))))))))))))))))))))
  (s_cons (own := [.s, .s, .s, .s, .s, .s, .s, .s, .s, .s, .s, .s, .s, .s, .s, .s, .s]) (s_ret (x_and (EX.o2p (x_eq rfl (hu64 hr) (EX.o2p (x_len rfl m_len (x_cons (EX.o2p (x_call rfl c_near_rows (hr.mono (by decide)) (takes_of rfl rfl rfl rfl) (m_p (EX.o2p (x_lst (x_cons (EX.o2s x_int) (x_cons (EX.o2s x_int) (x_cons (EX.o2s x_int) (x_cons (EX.o2s x_int) (x_cons (EX.o2s x_int) (x_cons (EX.o2s x_int) (x_cons (EX.o2s x_int) (x_cons (EX.o2s x_int) x_nil)))))))))) m_nil))) x_nil))) (EX.o2p x_int))) (x_one (EX.o2s (x_eq rfl (hu64 hr) (EX.o2p (x_call rfl c_near_rows (hr.mono (by decide)) (takes_of rfl rfl rfl rfl) (m_p (EX.o2p (x_lst (x_cons (EX.o2s x_int) (x_cons (EX.o2s x_int) (x_cons (EX.o2s x_int) (x_cons (EX.o2s x_int) (x_cons (EX.o2s x_int) (x_cons (EX.o2s x_int) (x_cons (EX.o2s x_int) (x_cons (EX.o2s x_int) x_nil)))))))))) m_nil))) (EX.o2p (x_lst (x_cons (EX.o2s (x_lst (x_cons (EX.o2s x_int) (x_cons (EX.o2s x_int) (x_cons (EX.o2s x_int) (x_cons (EX.o2s x_int) (x_cons (EX.o2s x_int) (x_cons (EX.o2s x_int) (x_cons (EX.o2s x_int) (x_cons (EX.o2s x_int) x_nil)))))))))) (x_cons (EX.o2s (x_lst (x_cons (EX.o2s x_int) (x_cons (EX.o2s x_int) (x_cons (EX.o2s x_int) (x_cons (EX.o2s x_int) (x_cons (EX.o2s x_int) (x_cons (EX.o2s x_int) (x_cons (EX.o2s x_int) (x_cons (EX.o2s x_int) x_nil)))))))))) x_nil)))))))))
  (s_nil (own := [.s, .s, .s, .s, .s, .s, .s, .s, .s, .s, .s, .s, .s, .s, .s, .s, .s])))))) hB
end
theorem all_mk {l : PySem.W.OpenLaw} {w : World} {K : PySem.W.Frag} {h : Heap} {mg : Str → Option Value} {fa : Addr} (X : K.In h) (G : h.Ns mainGlobals mg) (hfa : mg "law" = some (.ref fa))
    {f0 f1 f2 f3 f4 f5 f6 f7 f8 f9 f10 f11 f12 f13 f14 f15 f16 f17 f18 f19 f20 f21 f22 f23 f24 f25 f26 f27 f28 : Addr} {od0 an0 od1 an1 od2 an2 od3 an3 od4 an4 od5 an5 od6 an6 od7 an7 od8 an8 od9 an9 od10 an10 od11 an11 od12 an12 od13 an13 od14 an14 od15 an15 od16 an16 od17 an17 od18 an18 od19 an19 od20 an20 od21 an21 od22 an22 od23 an23 od24 an24 od25 an25 od26 an26 od27 an27 od28 an28 : Option Addr} {sl0 sl1 sl2 sl3 sl4 sl5 sl6 sl7 sl8 sl9 sl10 sl11 sl12 sl13 sl14 sl15 sl16 sl17 sl18 sl19 sl20 sl21 sl22 sl23 sl24 sl25 sl26 sl27 sl28 : Array (Option Value)} {oc0 kV0 dc0 pm0 cd0 ct0 oc1 kV1 dc1 pm1 cd1 ct1 oc2 kV2 dc2 pm2 cd2 ct2 oc3 kV3 dc3 pm3 cd3 ct3 oc4 kV4 dc4 pm4 cd4 ct4 oc5 kV5 dc5 pm5 cd5 ct5 oc6 kV6 dc6 pm6 cd6 ct6 oc7 kV7 dc7 pm7 cd7 ct7 oc8 kV8 dc8 pm8 cd8 ct8 oc9 kV9 dc9 pm9 cd9 ct9 oc10 kV10 dc10 pm10 cd10 ct10 oc11 kV11 dc11 pm11 cd11 ct11 oc12 kV12 dc12 pm12 cd12 ct12 oc13 kV13 dc13 pm13 cd13 ct13 oc14 kV14 dc14 pm14 cd14 ct14 oc15 kV15 dc15 pm15 cd15 ct15 oc16 kV16 dc16 pm16 cd16 ct16 oc17 kV17 dc17 pm17 cd17 ct17 oc18 kV18 dc18 pm18 cd18 ct18 oc19 kV19 dc19 pm19 cd19 ct19 oc20 kV20 dc20 pm20 cd20 ct20 oc21 kV21 dc21 pm21 cd21 ct21 oc22 kV22 dc22 pm22 cd22 ct22 oc23 kV23 dc23 pm23 cd23 ct23 oc24 kV24 dc24 pm24 cd24 ct24 oc25 kV25 dc25 pm25 cd25 ct25 oc26 kV26 dc26 pm26 cd26 ct26 oc27 kV27 dc27 pm27 cd27 ct27 oc28 kV28 dc28 pm28 cd28 ct28 : Value}
    (a0 : PySem.W.nsIn K mainGlobals "fault_of_kind" = some (some (.ref f0))) (l0 : K.lookup f0 = some ⟨oc0, od0, .func (PySem.W.fnOf "fault_of_kind" "fault_of_kind" (defArgs s_fault_of_kind) (defBody s_fault_of_kind) (defScope s_fault_of_kind) .none kV0 dc0 pm0 an0 cd0 ct0), sl0⟩) (c0 : PySem.W.codeIn K cd0 "fault_of_kind" = true) (k0 : PySem.W.keepIn K (.ref f0) = true)
    (a1 : PySem.W.nsIn K mainGlobals "fault_of_row" = some (some (.ref f1))) (l1 : K.lookup f1 = some ⟨oc1, od1, .func (PySem.W.fnOf "fault_of_row" "fault_of_row" (defArgs s_fault_of_row) (defBody s_fault_of_row) (defScope s_fault_of_row) .none kV1 dc1 pm1 an1 cd1 ct1), sl1⟩) (c1 : PySem.W.codeIn K cd1 "fault_of_row" = true) (k1 : PySem.W.keepIn K (.ref f1) = true)
    (a2 : PySem.W.nsIn K mainGlobals "row_product" = some (some (.ref f2))) (l2 : K.lookup f2 = some ⟨oc2, od2, .func (PySem.W.fnOf "row_product" "row_product" (defArgs s_row_product) (defBody s_row_product) (defScope s_row_product) .none kV2 dc2 pm2 an2 cd2 ct2), sl2⟩) (c2 : PySem.W.codeIn K cd2 "row_product" = true) (k2 : PySem.W.keepIn K (.ref f2) = true)
    (a3 : PySem.W.nsIn K mainGlobals "row_square" = some (some (.ref f3))) (l3 : K.lookup f3 = some ⟨oc3, od3, .func (PySem.W.fnOf "row_square" "row_square" (defArgs s_row_square) (defBody s_row_square) (defScope s_row_square) .none kV3 dc3 pm3 an3 cd3 ct3), sl3⟩) (c3 : PySem.W.codeIn K cd3 "row_square" = true) (k3 : PySem.W.keepIn K (.ref f3) = true)
    (a4 : PySem.W.nsIn K mainGlobals "row_sum" = some (some (.ref f4))) (l4 : K.lookup f4 = some ⟨oc4, od4, .func (PySem.W.fnOf "row_sum" "row_sum" (defArgs s_row_sum) (defBody s_row_sum) (defScope s_row_sum) .none kV4 dc4 pm4 an4 cd4 ct4), sl4⟩) (c4 : PySem.W.codeIn K cd4 "row_sum" = true) (k4 : PySem.W.keepIn K (.ref f4) = true)
    (a5 : PySem.W.nsIn K mainGlobals "row_less" = some (some (.ref f5))) (l5 : K.lookup f5 = some ⟨oc5, od5, .func (PySem.W.fnOf "row_less" "row_less" (defArgs s_row_less) (defBody s_row_less) (defScope s_row_less) .none kV5 dc5 pm5 an5 cd5 ct5), sl5⟩) (c5 : PySem.W.codeIn K cd5 "row_less" = true) (k5 : PySem.W.keepIn K (.ref f5) = true)
    (a6 : PySem.W.nsIn K mainGlobals "even_roots" = some (some (.ref f6))) (l6 : K.lookup f6 = some ⟨oc6, od6, .func (PySem.W.fnOf "even_roots" "even_roots" (defArgs s_even_roots) (defBody s_even_roots) (defScope s_even_roots) .none kV6 dc6 pm6 an6 cd6 ct6), sl6⟩) (c6 : PySem.W.codeIn K cd6 "even_roots" = true) (k6 : PySem.W.keepIn K (.ref f6) = true)
    (a7 : PySem.W.nsIn K mainGlobals "odd_roots" = some (some (.ref f7))) (l7 : K.lookup f7 = some ⟨oc7, od7, .func (PySem.W.fnOf "odd_roots" "odd_roots" (defArgs s_odd_roots) (defBody s_odd_roots) (defScope s_odd_roots) .none kV7 dc7 pm7 an7 cd7 ct7), sl7⟩) (c7 : PySem.W.codeIn K cd7 "odd_roots" = true) (k7 : PySem.W.keepIn K (.ref f7) = true)
    (a8 : PySem.W.nsIn K mainGlobals "all_roots" = some (some (.ref f8))) (l8 : K.lookup f8 = some ⟨oc8, od8, .func (PySem.W.fnOf "all_roots" "all_roots" (defArgs s_all_roots) (defBody s_all_roots) (defScope s_all_roots) .none kV8 dc8 pm8 an8 cd8 ct8), sl8⟩) (c8 : PySem.W.codeIn K cd8 "all_roots" = true) (k8 : PySem.W.keepIn K (.ref f8) = true)
    (a9 : PySem.W.nsIn K mainGlobals "is_root" = some (some (.ref f9))) (l9 : K.lookup f9 = some ⟨oc9, od9, .func (PySem.W.fnOf "is_root" "is_root" (defArgs s_is_root) (defBody s_is_root) (defScope s_is_root) .none kV9 dc9 pm9 an9 cd9 ct9), sl9⟩) (c9 : PySem.W.codeIn K cd9 "is_root" = true) (k9 : PySem.W.keepIn K (.ref f9) = true)
    (a10 : PySem.W.nsIn K mainGlobals "distance" = some (some (.ref f10))) (l10 : K.lookup f10 = some ⟨oc10, od10, .func (PySem.W.fnOf "distance" "distance" (defArgs s_distance) (defBody s_distance) (defScope s_distance) .none kV10 dc10 pm10 an10 cd10 ct10), sl10⟩) (c10 : PySem.W.codeIn K cd10 "distance" = true) (k10 : PySem.W.keepIn K (.ref f10) = true)
    (a11 : PySem.W.nsIn K mainGlobals "steps_of_two" = some (some (.ref f11))) (l11 : K.lookup f11 = some ⟨oc11, od11, .func (PySem.W.fnOf "steps_of_two" "steps_of_two" (defArgs s_steps_of_two) (defBody s_steps_of_two) (defScope s_steps_of_two) .none kV11 dc11 pm11 an11 cd11 ct11), sl11⟩) (c11 : PySem.W.codeIn K cd11 "steps_of_two" = true) (k11 : PySem.W.keepIn K (.ref f11) = true)
    (a12 : PySem.W.nsIn K mainGlobals "near_of_kind" = some (some (.ref f12))) (l12 : K.lookup f12 = some ⟨oc12, od12, .func (PySem.W.fnOf "near_of_kind" "near_of_kind" (defArgs s_near_of_kind) (defBody s_near_of_kind) (defScope s_near_of_kind) .none kV12 dc12 pm12 an12 cd12 ct12), sl12⟩) (c12 : PySem.W.codeIn K cd12 "near_of_kind" = true) (k12 : PySem.W.keepIn K (.ref f12) = true)
    (a13 : PySem.W.nsIn K mainGlobals "near_rows" = some (some (.ref f13))) (l13 : K.lookup f13 = some ⟨oc13, od13, .func (PySem.W.fnOf "near_rows" "near_rows" (defArgs s_near_rows) (defBody s_near_rows) (defScope s_near_rows) .none kV13 dc13 pm13 an13 cd13 ct13), sl13⟩) (c13 : PySem.W.codeIn K cd13 "near_rows" = true) (k13 : PySem.W.keepIn K (.ref f13) = true)
    (a14 : PySem.W.nsIn K mainGlobals "nearest_row" = some (some (.ref f14))) (l14 : K.lookup f14 = some ⟨oc14, od14, .func (PySem.W.fnOf "nearest_row" "nearest_row" (defArgs s_nearest_row) (defBody s_nearest_row) (defScope s_nearest_row) .none kV14 dc14 pm14 an14 cd14 ct14), sl14⟩) (c14 : PySem.W.codeIn K cd14 "nearest_row" = true) (k14 : PySem.W.keepIn K (.ref f14) = true)
    (a15 : PySem.W.nsIn K mainGlobals "is_nearest" = some (some (.ref f15))) (l15 : K.lookup f15 = some ⟨oc15, od15, .func (PySem.W.fnOf "is_nearest" "is_nearest" (defArgs s_is_nearest) (defBody s_is_nearest) (defScope s_is_nearest) .none kV15 dc15 pm15 an15 cd15 ct15), sl15⟩) (c15 : PySem.W.codeIn K cd15 "is_nearest" = true) (k15 : PySem.W.keepIn K (.ref f15) = true)
    (a16 : PySem.W.nsIn K mainGlobals "is_twice" = some (some (.ref f16))) (l16 : K.lookup f16 = some ⟨oc16, od16, .func (PySem.W.fnOf "is_twice" "is_twice" (defArgs s_is_twice) (defBody s_is_twice) (defScope s_is_twice) .none kV16 dc16 pm16 an16 cd16 ct16), sl16⟩) (c16 : PySem.W.codeIn K cd16 "is_twice" = true) (k16 : PySem.W.keepIn K (.ref f16) = true)
    (a17 : PySem.W.nsIn K mainGlobals "lists_of" = some (some (.ref f17))) (l17 : K.lookup f17 = some ⟨oc17, od17, .func (PySem.W.fnOf "lists_of" "lists_of" (defArgs s_lists_of) (defBody s_lists_of) (defScope s_lists_of) .none kV17 dc17 pm17 an17 cd17 ct17), sl17⟩) (c17 : PySem.W.codeIn K cd17 "lists_of" = true) (k17 : PySem.W.keepIn K (.ref f17) = true)
    (a18 : PySem.W.nsIn K mainGlobals "rows_with_residues" = some (some (.ref f18))) (l18 : K.lookup f18 = some ⟨oc18, od18, .func (PySem.W.fnOf "rows_with_residues" "rows_with_residues" (defArgs s_rows_with_residues) (defBody s_rows_with_residues) (defScope s_rows_with_residues) .none kV18 dc18 pm18 an18 cd18 ct18), sl18⟩) (c18 : PySem.W.codeIn K cd18 "rows_with_residues" = true) (k18 : PySem.W.keepIn K (.ref f18) = true)
    (a19 : PySem.W.nsIn K mainGlobals "frame_of" = some (some (.ref f19))) (l19 : K.lookup f19 = some ⟨oc19, od19, .func (PySem.W.fnOf "frame_of" "frame_of" (defArgs s_frame_of) (defBody s_frame_of) (defScope s_frame_of) .none kV19 dc19 pm19 an19 cd19 ct19), sl19⟩) (c19 : PySem.W.codeIn K cd19 "frame_of" = true) (k19 : PySem.W.keepIn K (.ref f19) = true)
    (a20 : PySem.W.nsIn K mainGlobals "rest_by_two" = some (some (.ref f20))) (l20 : K.lookup f20 = some ⟨oc20, od20, .func (PySem.W.fnOf "rest_by_two" "rest_by_two" (defArgs s_rest_by_two) (defBody s_rest_by_two) (defScope s_rest_by_two) .none kV20 dc20 pm20 an20 cd20 ct20), sl20⟩) (c20 : PySem.W.codeIn K cd20 "rest_by_two" = true) (k20 : PySem.W.keepIn K (.ref f20) = true)
    (a21 : PySem.W.nsIn K mainGlobals "sum_by_two" = some (some (.ref f21))) (l21 : K.lookup f21 = some ⟨oc21, od21, .func (PySem.W.fnOf "sum_by_two" "sum_by_two" (defArgs s_sum_by_two) (defBody s_sum_by_two) (defScope s_sum_by_two) .none kV21 dc21 pm21 an21 cd21 ct21), sl21⟩) (c21 : PySem.W.codeIn K cd21 "sum_by_two" = true) (k21 : PySem.W.keepIn K (.ref f21) = true)
    (a22 : PySem.W.nsIn K mainGlobals "_law_feed" = some (some (.ref f22))) (l22 : K.lookup f22 = some ⟨oc22, od22, .func (PySem.W.fnOf "_law_feed" "_law_feed" (defArgs s__law_feed) (defBody s__law_feed) (defScope s__law_feed) .none kV22 dc22 pm22 an22 cd22 ct22), sl22⟩) (c22 : PySem.W.codeIn K cd22 "_law_feed" = true) (k22 : PySem.W.keepIn K (.ref f22) = true)
    (a23 : PySem.W.nsIn K mainGlobals "_law_draw" = some (some (.ref f23))) (l23 : K.lookup f23 = some ⟨oc23, od23, .func (PySem.W.fnOf "_law_draw" "_law_draw" (defArgs s__law_draw) (defBody s__law_draw) (defScope s__law_draw) .none kV23 dc23 pm23 an23 cd23 ct23), sl23⟩) (c23 : PySem.W.codeIn K cd23 "_law_draw" = true) (k23 : PySem.W.keepIn K (.ref f23) = true)
    (a24 : PySem.W.nsIn K mainGlobals "_law_product" = some (some (.ref f24))) (l24 : K.lookup f24 = some ⟨oc24, od24, .func (PySem.W.fnOf "_law_product" "_law_product" (defArgs s__law_product) (defBody s__law_product) (defScope s__law_product) .none kV24 dc24 pm24 an24 cd24 ct24), sl24⟩) (c24 : PySem.W.codeIn K cd24 "_law_product" = true) (k24 : PySem.W.keepIn K (.ref f24) = true)
    (a25 : PySem.W.nsIn K mainGlobals "_law_roots" = some (some (.ref f25))) (l25 : K.lookup f25 = some ⟨oc25, od25, .func (PySem.W.fnOf "_law_roots" "_law_roots" (defArgs s__law_roots) (defBody s__law_roots) (defScope s__law_roots) .none kV25 dc25 pm25 an25 cd25 ct25), sl25⟩) (c25 : PySem.W.codeIn K cd25 "_law_roots" = true) (k25 : PySem.W.keepIn K (.ref f25) = true)
    (a26 : PySem.W.nsIn K mainGlobals "_law_row" = some (some (.ref f26))) (l26 : K.lookup f26 = some ⟨oc26, od26, .func (PySem.W.fnOf "_law_row" "_law_row" (defArgs s__law_row) (defBody s__law_row) (defScope s__law_row) .none kV26 dc26 pm26 an26 cd26 ct26), sl26⟩) (c26 : PySem.W.codeIn K cd26 "_law_row" = true) (k26 : PySem.W.keepIn K (.ref f26) = true)
    (a27 : PySem.W.nsIn K mainGlobals "_law_even" = some (some (.ref f27))) (l27 : K.lookup f27 = some ⟨oc27, od27, .func (PySem.W.fnOf "_law_even" "_law_even" (defArgs s__law_even) (defBody s__law_even) (defScope s__law_even) .none kV27 dc27 pm27 an27 cd27 ct27), sl27⟩) (c27 : PySem.W.codeIn K cd27 "_law_even" = true) (k27 : PySem.W.keepIn K (.ref f27) = true)
    (a28 : PySem.W.nsIn K mainGlobals "law" = some (some (.ref f28))) (l28 : K.lookup f28 = some ⟨oc28, od28, .func (PySem.W.fnOf "law" "law" (defArgs s_law) (defBody s_law) (defScope s_law) .none kV28 dc28 pm28 an28 cd28 ct28), sl28⟩) (c28 : PySem.W.codeIn K cd28 "law" = true) (k28 : PySem.W.keepIn K (.ref f28) = true)
    (z_any : PySem.W.nsIn K mainGlobals "any" = some none)
    (z_sum : PySem.W.nsIn K mainGlobals "sum" = some none)
    (z_len : PySem.W.nsIn K mainGlobals "len" = some none)
    (z_enumerate : PySem.W.nsIn K mainGlobals "enumerate" = some none)
    (z_zip : PySem.W.nsIn K mainGlobals "zip" = some none)
    (z_range : PySem.W.nsIn K mainGlobals "range" = some none)
    (z_sorted : PySem.W.nsIn K mainGlobals "sorted" = some none)
    (z_list : PySem.W.nsIn K mainGlobals "list" = some none)
    (z_min : PySem.W.nsIn K mainGlobals "min" = some none)
    (z_abs : PySem.W.nsIn K mainGlobals "abs" = some none)
    (z_int : PySem.W.nsIn K mainGlobals "int" = some none)
    {t_SIZE : Tok} (y_SIZE : PySem.W.nsIn K mainGlobals "SIZE" = some (some (.int 8 t_SIZE)))
    {t_MOST_NUMBER : Tok} (y_MOST_NUMBER : PySem.W.nsIn K mainGlobals "MOST_NUMBER" = some (some (.int 99 t_MOST_NUMBER)))
    {t_RESIDUES : Addr} (y_RESIDUES : PySem.W.nsIn K mainGlobals "RESIDUES" = some (some (.ref t_RESIDUES))) (r_RESIDUES : gdB K t_RESIDUES [(0, .tup [.int 0]), (1, .tup [.int (-3), .int 1]), (2, .tup [.int (-2), .int 2]), (3, .tup [.int (-1), .int 3])] = true)
    (hB : ∀ φ : Fd, φ.Ok → ∃ φ', B_law ((List.replicate 17 none).set 1 (some .feed)) φ = .rt (.bl true) φ') :
    ∃ fd : FuncData, (∀ (s : Shared) (v : Value), BindsTo s fd ⟨[v], []⟩ [("script", v)]) ∧ ∀ base : Heap, K.In base → base.Ns mainGlobals mg → FnOk l.prog w K mg base (L2.CX l.prog w) 6 fa fd ["script"] (spLaw K) := by
  have e := hfa.symm.trans (PySem.W.mg_of X G a28)
  cases e
  have m_any := PySem.W.mg_none_of X G z_any
  have m_sum := PySem.W.mg_none_of X G z_sum
  have m_len := PySem.W.mg_none_of X G z_len
  have m_enumerate := PySem.W.mg_none_of X G z_enumerate
  have m_zip := PySem.W.mg_none_of X G z_zip
  have m_range := PySem.W.mg_none_of X G z_range
  have m_sorted := PySem.W.mg_none_of X G z_sorted
  have m_list := PySem.W.mg_none_of X G z_list
  have m_min := PySem.W.mg_none_of X G z_min
  have m_abs := PySem.W.mg_none_of X G z_abs
  have m_int := PySem.W.mg_none_of X G z_int
  have g_SIZE : ∃ t, mg "SIZE" = some (.int 8 t) := ⟨t_SIZE, PySem.W.mg_of X G y_SIZE⟩
  have g_MOST_NUMBER : ∃ t, mg "MOST_NUMBER" = some (.int 99 t) := ⟨t_MOST_NUMBER, PySem.W.mg_of X G y_MOST_NUMBER⟩
  have g_RESIDUES : ∃ p, mg "RESIDUES" = some (.ref p) ∧ gdB K p [(0, .tup [.int 0]), (1, .tup [.int (-3), .int 1]), (2, .tup [.int (-2), .int 2]), (3, .tup [.int (-1), .int 3])] = true := ⟨t_RESIDUES, PySem.W.mg_of X G y_RESIDUES, r_RESIDUES⟩
  have F0 := fun_mk (st := s_fault_of_kind) l0 c0 k0
  have b0 := F0.binds (ps := ["row"]) fun _ _ _ _ _ _ us hl => match us, hl with | [_], _ => rfl
  have g0 := PySem.W.mg_of X G a0
  have F1 := fun_mk (st := s_fault_of_row) l1 c1 k1
  have b1 := F1.binds (ps := ["row"]) fun _ _ _ _ _ _ us hl => match us, hl with | [_], _ => rfl
  have g1 := PySem.W.mg_of X G a1
  have F2 := fun_mk (st := s_row_product) l2 c2 k2
  have b2 := F2.binds (ps := ["one", "other"]) fun _ _ _ _ _ _ us hl => match us, hl with | [_, _], _ => rfl
  have g2 := PySem.W.mg_of X G a2
  have F3 := fun_mk (st := s_row_square) l3 c3 k3
  have b3 := F3.binds (ps := ["row"]) fun _ _ _ _ _ _ us hl => match us, hl with | [_], _ => rfl
  have g3 := PySem.W.mg_of X G a3
  have F4 := fun_mk (st := s_row_sum) l4 c4 k4
  have b4 := F4.binds (ps := ["one", "other"]) fun _ _ _ _ _ _ us hl => match us, hl with | [_, _], _ => rfl
  have g4 := PySem.W.mg_of X G a4
  have F5 := fun_mk (st := s_row_less) l5 c5 k5
  have b5 := F5.binds (ps := ["one", "other"]) fun _ _ _ _ _ _ us hl => match us, hl with | [_, _], _ => rfl
  have g5 := PySem.W.mg_of X G a5
  have F6 := fun_mk (st := s_even_roots) l6 c6 k6
  have b6 := F6.binds (ps := []) fun _ _ _ _ _ _ us hl => match us, hl with | [], _ => rfl
  have g6 := PySem.W.mg_of X G a6
  have F7 := fun_mk (st := s_odd_roots) l7 c7 k7
  have b7 := F7.binds (ps := []) fun _ _ _ _ _ _ us hl => match us, hl with | [], _ => rfl
  have g7 := PySem.W.mg_of X G a7
  have F8 := fun_mk (st := s_all_roots) l8 c8 k8
  have b8 := F8.binds (ps := []) fun _ _ _ _ _ _ us hl => match us, hl with | [], _ => rfl
  have g8 := PySem.W.mg_of X G a8
  have F9 := fun_mk (st := s_is_root) l9 c9 k9
  have b9 := F9.binds (ps := ["row"]) fun _ _ _ _ _ _ us hl => match us, hl with | [_], _ => rfl
  have g9 := PySem.W.mg_of X G a9
  have F10 := fun_mk (st := s_distance) l10 c10 k10
  have b10 := F10.binds (ps := ["point", "row"]) fun _ _ _ _ _ _ us hl => match us, hl with | [_, _], _ => rfl
  have g10 := PySem.W.mg_of X G a10
  have F11 := fun_mk (st := s_steps_of_two) l11 c11 k11
  have b11 := F11.binds (ps := []) fun _ _ _ _ _ _ us hl => match us, hl with | [], _ => rfl
  have g11 := PySem.W.mg_of X G a11
  have F12 := fun_mk (st := s_near_of_kind) l12 c12 k12
  have b12 := F12.binds (ps := ["point", "odd"]) fun _ _ _ _ _ _ us hl => match us, hl with | [_, _], _ => rfl
  have g12 := PySem.W.mg_of X G a12
  have F13 := fun_mk (st := s_near_rows) l13 c13 k13
  have b13 := F13.binds (ps := ["point"]) fun _ _ _ _ _ _ us hl => match us, hl with | [_], _ => rfl
  have g13 := PySem.W.mg_of X G a13
  have F14 := fun_mk (st := s_nearest_row) l14 c14 k14
  have b14 := F14.binds (ps := ["point"]) fun _ _ _ _ _ _ us hl => match us, hl with | [_], _ => rfl
  have g14 := PySem.W.mg_of X G a14
  have F15 := fun_mk (st := s_is_nearest) l15 c15 k15
  have b15 := F15.binds (ps := ["point", "row"]) fun _ _ _ _ _ _ us hl => match us, hl with | [_, _], _ => rfl
  have g15 := PySem.W.mg_of X G a15
  have F16 := fun_mk (st := s_is_twice) l16 c16 k16
  have b16 := F16.binds (ps := ["numbers"]) fun _ _ _ _ _ _ us hl => match us, hl with | [_], _ => rfl
  have g16 := PySem.W.mg_of X G a16
  have F17 := fun_mk (st := s_lists_of) l17 c17 k17
  have b17 := F17.binds (ps := ["choices"]) fun _ _ _ _ _ _ us hl => match us, hl with | [_], _ => rfl
  have g17 := PySem.W.mg_of X G a17
  have F18 := fun_mk (st := s_rows_with_residues) l18 c18 k18
  have b18 := F18.binds (ps := ["residues"]) fun _ _ _ _ _ _ us hl => match us, hl with | [_], _ => rfl
  have g18 := PySem.W.mg_of X G a18
  have F19 := fun_mk (st := s_frame_of) l19 c19 k19
  have b19 := F19.binds (ps := ["row"]) fun _ _ _ _ _ _ us hl => match us, hl with | [_], _ => rfl
  have g19 := PySem.W.mg_of X G a19
  have F20 := fun_mk (st := s_rest_by_two) l20 c20 k20
  have b20 := F20.binds (ps := ["row"]) fun _ _ _ _ _ _ us hl => match us, hl with | [_], _ => rfl
  have g20 := PySem.W.mg_of X G a20
  have F21 := fun_mk (st := s_sum_by_two) l21 c21 k21
  have b21 := F21.binds (ps := ["row"]) fun _ _ _ _ _ _ us hl => match us, hl with | [_], _ => rfl
  have g21 := PySem.W.mg_of X G a21
  have F22 := fun_mk (st := s__law_feed) l22 c22 k22
  have b22 := F22.binds (ps := ["script"]) fun _ _ _ _ _ _ us hl => match us, hl with | [_], _ => rfl
  have g22 := PySem.W.mg_of X G a22
  have F23 := fun_mk (st := s__law_draw) l23 c23 k23
  have b23 := F23.binds (ps := ["feed", "many"]) fun _ _ _ _ _ _ us hl => match us, hl with | [_, _], _ => rfl
  have g23 := PySem.W.mg_of X G a23
  have F24 := fun_mk (st := s__law_product) l24 c24 k24
  have b24 := F24.binds (ps := ["one", "other"]) fun _ _ _ _ _ _ us hl => match us, hl with | [_, _], _ => rfl
  have g24 := PySem.W.mg_of X G a24
  have F25 := fun_mk (st := s__law_roots) l25 c25 k25
  have b25 := F25.binds (ps := []) fun _ _ _ _ _ _ us hl => match us, hl with | [], _ => rfl
  have g25 := PySem.W.mg_of X G a25
  have F26 := fun_mk (st := s__law_row) l26 c26 k26
  have b26 := F26.binds (ps := ["feed", "roots", "many"]) fun _ _ _ _ _ _ us hl => match us, hl with | [_, _, _], _ => rfl
  have g26 := PySem.W.mg_of X G a26
  have F27 := fun_mk (st := s__law_even) l27 c27 k27
  have b27 := F27.binds (ps := ["feed", "roots"]) fun _ _ _ _ _ _ us hl => match us, hl with | [_, _], _ => rfl
  have g27 := PySem.W.mg_of X G a27
  have F28 := fun_mk (st := s_law) l28 c28 k28
  have b28 := F28.binds (ps := ["script"]) fun _ _ _ _ _ _ us hl => match us, hl with | [_], _ => rfl
  have g28 := PySem.W.mg_of X G a28
  refine ⟨PySem.W.fnOf "law" "law" (defArgs s_law) (defBody s_law) (defScope s_law) .none kV28 dc28 pm28 an28 cd28 ct28, fun s v => .of_eq rfl, fun base _ _ => ?_⟩
  have c_fault_of_kind : Cal l.prog w K mg base (fun _ => none) "fault_of_kind" 1 [true] .o F_fault_of_kind := cal_of g0 F0.kp b0 (ok_fault_of_kind F0 m_any m_sum g_SIZE)
  have c_fault_of_row : Cal l.prog w K mg base (fun _ => none) "fault_of_row" 2 [false] .s F_fault_of_row := cal_of g1 F1.kp b1 (ok_fault_of_row F1 c_fault_of_kind m_len m_enumerate g_SIZE g_MOST_NUMBER)
  have c_row_product : Cal l.prog w K mg base (fun _ => none) "row_product" 1 [true, true] .o F_row_product := cal_of g2 F2.kp b2 (ok_row_product F2 m_sum m_zip)
  have c_row_square : Cal l.prog w K mg base (fun _ => none) "row_square" 2 [true] .o F_row_square := cal_of g3 F3.kp b3 (ok_row_square F3 c_row_product)
  have c_row_sum : Cal l.prog w K mg base (fun _ => none) "row_sum" 1 [true, true] .o F_row_sum := cal_of g4 F4.kp b4 (ok_row_sum F4 m_zip)
  have c_row_less : Cal l.prog w K mg base (fun _ => none) "row_less" 1 [true, true] .o F_row_less := cal_of g5 F5.kp b5 (ok_row_less F5 m_zip)
  have c_even_roots : Cal l.prog w K mg base (fun _ => none) "even_roots" 1 [] .o F_even_roots := cal_of g6 F6.kp b6 (ok_even_roots F6 m_range g_SIZE)
  have c_odd_roots : Cal l.prog w K mg base (fun _ => none) "odd_roots" 1 [] .o F_odd_roots := cal_of g7 F7.kp b7 (ok_odd_roots F7 m_range m_sum g_SIZE)
  have c_all_roots : Cal l.prog w K mg base (fun _ => none) "all_roots" 2 [] .o F_all_roots := cal_of g8 F8.kp b8 (ok_all_roots F8 c_even_roots c_odd_roots m_sorted)
  have c_is_root : Cal l.prog w K mg base (fun _ => none) "is_root" 3 [false] .o F_is_root := cal_of g9 F9.kp b9 (ok_is_root F9 c_fault_of_row c_row_square)
  have c_distance : Cal l.prog w K mg base (fun _ => none) "distance" 1 [true, true] .o F_distance := cal_of g10 F10.kp b10 (ok_distance F10 m_sum m_zip)
  have c_steps_of_two : Cal l.prog w K mg base (fun _ => none) "steps_of_two" 1 [] .o F_steps_of_two := cal_of g11 F11.kp b11 (ok_steps_of_two F11 m_range g_SIZE)
  have c_near_of_kind : Cal l.prog w K mg base (fun _ => none) "near_of_kind" 2 [true, true] .o F_near_of_kind := cal_of g12 F12.kp b12 (ok_near_of_kind F12 c_steps_of_two c_row_sum m_range m_list m_sum g_SIZE)
  have c_near_rows : Cal l.prog w K mg base (fun _ => none) "near_rows" 3 [true] .o F_near_rows := cal_of g13 F13.kp b13 (ok_near_rows F13 c_near_of_kind c_distance m_min m_sorted)
  have c_nearest_row : Cal l.prog w K mg base (fun _ => none) "nearest_row" 4 [true] .s F_nearest_row := cal_of g14 F14.kp b14 (ok_nearest_row F14 c_near_rows)
  have c_is_nearest : Cal l.prog w K mg base (fun _ => none) "is_nearest" 3 [true, true] .o F_is_nearest := cal_of g15 F15.kp b15 (ok_is_nearest F15 c_distance c_all_roots c_row_sum)
  have c_is_twice : Cal l.prog w K mg base (fun _ => none) "is_twice" 2 [true] .o F_is_twice := cal_of g16 F16.kp b16 (ok_is_twice F16 c_fault_of_kind m_any)
  have c_lists_of : Cal l.prog w K mg base (fun _ => none) "lists_of" 1 [true] .o F_lists_of := cal_of g17 F17.kp b17 (ok_lists_of F17)
  have c_rows_with_residues : Cal l.prog w K mg base (fun _ => none) "rows_with_residues" 3 [true] .o F_rows_with_residues := cal_of g18 F18.kp b18 (ok_rows_with_residues F18 c_lists_of c_row_square m_sum m_range g_RESIDUES g_SIZE)
  have c_frame_of : Cal l.prog w K mg base (fun _ => none) "frame_of" 4 [true] .o F_frame_of := cal_of g19 F19.kp b19 (ok_frame_of F19 c_rows_with_residues c_is_twice c_row_less m_sorted)
  have c_rest_by_two : Cal l.prog w K mg base (fun _ => none) "rest_by_two" 5 [true] .o F_rest_by_two := cal_of g20 F20.kp b20 (ok_rest_by_two F20 c_is_twice c_all_roots c_row_less c_frame_of)
  have c_sum_by_two : Cal l.prog w K mg base (fun _ => none) "sum_by_two" 3 [true] .o F_sum_by_two := cal_of g21 F21.kp b21 (ok_sum_by_two F21 c_row_square)
  have c__law_draw : Cal l.prog w K mg base (fun _ => none) "_law_draw" 1 [false, false] .s F__law_draw := cal_of g23 F23.kp b23 (ok__law_draw F23 m_len m_abs m_int)
  have c__law_product : Cal l.prog w K mg base (fun _ => none) "_law_product" 1 [true, true] .o F__law_product := cal_of g24 F24.kp b24 (ok__law_product F24 m_sum m_range)
  have c__law_roots : Cal l.prog w K mg base (fun _ => none) "_law_roots" 1 [] .o F__law_roots := cal_of g25 F25.kp b25 (ok__law_roots F25 m_range m_int m_sum m_sorted)
  have c__law_row : Cal l.prog w K mg base (fun _ => none) "_law_row" 2 [false, true, true] .o F__law_row := cal_of g26 F26.kp b26 (ok__law_row F26 c__law_draw m_range)
  have c__law_even : Cal l.prog w K mg base (fun _ => none) "_law_even" 3 [false, true] .o F__law_even := cal_of g27 F27.kp b27 (ok__law_even F27 c__law_draw c__law_row m_range)
  exact ok_law (cls := fun _ => none) F28 F22 g22 b22 m_list c__law_roots c__law_even c_rest_by_two c_near_rows c_nearest_row c_is_root c_is_nearest c__law_draw c_sum_by_two c__law_product m_range m_len m_sorted m_int hB
end Pf

set_option Elab.async false
set_option linter.all false
set_option maxRecDepth 100000
set_option maxHeartbeats 4000000
namespace Pf
open PySem PySem.Spec PyProof.Rows L2

/-! ## plain evaluation -/
section
variable {ρ ρ1 ρ2 : En} {φ φ1 φ2 φ3 : Fd} {A B C : SX} {d e z : D}
theorem v_ok {i : Nat} (h : ρ[i]? = some (some d)) : eVar i ρ φ = .ok d φ := by unfold eVar; rw [h]
theorem bin_ok {g : D → D → Option D} (ha : A ρ φ = .ok d φ1) (hb : B ρ φ1 = .ok e φ2) (h : g d e = some z) : eBin g A B ρ φ = .ok z φ2 := by
  unfold eBin; rw [ha]; show (B ρ φ1).bind _ = _; rw [hb]; show ofO (g d e) φ2 = _; rw [h]; rfl
theorem un_ok {g : D → Option D} (ha : A ρ φ = .ok d φ1) (h : g d = some z) : eUn g A ρ φ = .ok z φ1 := by
  unfold eUn; rw [ha]; show ofO (g d) φ1 = _; rw [h]; rfl
theorem nil_ok : aNil ρ φ = .ok [] φ := rfl
theorem cons_ok {S : SA} {ds : List D} (ha : A ρ φ = .ok d φ1) (hs : S ρ φ1 = .ok ds φ2) : aCons A S ρ φ = .ok (d :: ds) φ2 := by
  unfold aCons; rw [ha]; show (S ρ φ1).bind _ = _; rw [hs]; rfl
theorem one_ok (ha : A ρ φ = .ok d φ1) : aCons A aNil ρ φ = .ok [d] φ1 := cons_ok ha nil_ok
theorem two_ok (ha : A ρ φ = .ok d φ1) (hb : B ρ φ1 = .ok e φ2) : aCons A (aCons B aNil) ρ φ = .ok [d, e] φ2 := cons_ok ha (one_ok hb)
theorem cb_ok {S : SA} {g : List D → Option D} {ds : List D} (hs : S ρ φ = .ok ds φ1) (h : g ds = some z) : eCB g S ρ φ = .ok z φ1 := by
  unfold eCB; rw [hs]; show ofO (g ds) φ1 = _; rw [h]; rfl
theorem cb1_ok {g : List D → Option D} (ha : A ρ φ = .ok d φ1) (h : g [d] = some z) : eCB g (aCons A aNil) ρ φ = .ok z φ1 := cb_ok (one_ok ha) h
theorem call_ok {S : SA} {F : Fn} {ds : List D} (hs : S ρ φ = .ok ds φ1) (h : F ds φ1 = .ok z φ2) : eCall F S ρ φ = .ok z φ2 := by
  unfold eCall; rw [hs]; exact h
theorem call0_ok {F : Fn} (h : F [] φ = .ok z φ1) : eCall0 F ρ φ = .ok z φ1 := by unfold eCall0; rw [h]
theorem lst_ok {S : SA} {ds : List D} (hs : S ρ φ = .ok ds φ1) (h : ds.length ≤ sizeLine) : eLst S ρ φ = .ok (.lst ds) φ1 := by
  unfold eLst; rw [hs]; show (if _ then _ else _) = _; rw [if_pos h]
theorem tup_ok {S : SA} {ds : List D} (hs : S ρ φ = .ok ds φ1) (h : ds.length ≤ sizeLine) : eTup S ρ φ = .ok (.tup ds) φ1 := by
  unfold eTup; rw [hs]; show (if _ then _ else _) = _; rw [if_pos h]
/-! tests -/
variable {S T : SB} {b k : Bool}
theorem cmp_ok {g : D → D → Option D} (ha : A ρ φ = .ok d φ1) (hb : B ρ φ1 = .ok e φ2) (h : g d e = some (.bl b)) : bCmp g A B ρ φ = .ok b φ2 := by
  unfold bCmp bVal; rw [bin_ok ha hb h]; rfl
theorem tru_ok (ha : A ρ φ = .ok d φ1) (h : truD d = some b) : bTru A ρ φ = .ok b φ1 := by
  unfold bTru; rw [ha]; show ofO (truD d) φ1 = _; rw [h]; rfl
theorem trub_ok (ha : A ρ φ = .ok (.bl b) φ1) : bTru A ρ φ = .ok b φ1 := tru_ok ha (show some b = some b from rfl)
theorem not_ok (ha : S ρ φ = .ok b φ1) : bNot S ρ φ = .ok (!b) φ1 := by unfold bNot; rw [ha]; rfl
theorem or_no (ha : S ρ φ = .ok false φ1) (hb : T ρ φ1 = .ok b φ2) : bOr S T ρ φ = .ok b φ2 := by
  unfold bOr; rw [ha]; exact hb
theorem or_yes (ha : S ρ φ = .ok true φ1) : bOr S T ρ φ = .ok true φ1 := by unfold bOr; rw [ha]; rfl
theorem or_ok (ha : S ρ φ = .ok b φ1) (hb : b = false → T ρ φ1 = .ok k φ1) : bOr S T ρ φ = .ok (b || k) φ1 := by
  cases b with
  | true => rw [or_yes ha]; rfl
  | false => rw [or_no ha (hb rfl)]; rfl
theorem and_yes (ha : S ρ φ = .ok true φ1) (hb : T ρ φ1 = .ok b φ2) : bAnd S T ρ φ = .ok b φ2 := by
  unfold bAnd; rw [ha]; exact hb
theorem and_no (ha : S ρ φ = .ok false φ1) : bAnd S T ρ φ = .ok false φ1 := by unfold bAnd; rw [ha]; rfl
theorem and_ok (ha : S ρ φ = .ok b φ1) (hb : b = true → T ρ φ1 = .ok k φ1) : bAnd S T ρ φ = .ok (b && k) φ1 := by
  cases b with
  | false => rw [and_no ha]; rfl
  | true => rw [and_yes ha (hb rfl)]; rfl
theorem still_ok (ha : S ρ φ = .ok b φ1) : bStill S ρ φ = .ok b φ1 := by unfold bStill; rw [ha]; rfl
theorem eand_yes (ha : A ρ φ = .ok (.bl true) φ1) (hb : B ρ φ1 = .ok d φ2) : eAnd A B ρ φ = .ok d φ2 := by unfold eAnd; rw [ha]; exact hb
theorem eand_no (ha : A ρ φ = .ok (.bl false) φ1) : eAnd A B ρ φ = .ok (.bl false) φ1 := by unfold eAnd; rw [ha]; rfl
theorem eor_no (ha : A ρ φ = .ok (.bl false) φ1) (hb : B ρ φ1 = .ok d φ2) : eOr A B ρ φ = .ok d φ2 := by unfold eOr; rw [ha]; exact hb
theorem enot_ok (ha : A ρ φ = .ok (.bl b) φ1) : eNot A ρ φ = .ok (.bl (!b)) φ1 := by unfold eNot; rw [ha]; rfl
theorem eif_yes (ha : S ρ φ = .ok true φ1) (hb : A ρ φ1 = .ok d φ2) : eIf S A B ρ φ = .ok d φ2 := by unfold eIf; rw [ha]; exact hb
theorem eif_no (ha : S ρ φ = .ok false φ1) (hb : B ρ φ1 = .ok d φ2) : eIf S A B ρ φ = .ok d φ2 := by unfold eIf; rw [ha]; exact hb
/-! statements -/
variable {P Q : SS} {r : R}
theorem seq_nx (h1 : P ρ φ = .nx ρ1 φ1) (h2 : Q ρ1 φ1 = r) : sSeq P Q ρ φ = r := by unfold sSeq; rw [h1]; exact h2
theorem seq_rt (h1 : P ρ φ = .rt d φ1) : sSeq P Q ρ φ = .rt d φ1 := by unfold sSeq; rw [h1]; rfl
theorem seq_one (h1 : P ρ φ = .nx ρ1 φ1) : sSeq P sNil ρ φ = .nx ρ1 φ1 := seq_nx h1 rfl
theorem set_ok {i : Nat} (h : A ρ φ = .ok d φ1) : sSet i A ρ φ = .nx (ρ.set i (some d)) φ1 := by unfold sSet; rw [h]; rfl
theorem ret_ok (h : A ρ φ = .ok d φ1) : sRet A ρ φ = .rt d φ1 := by unfold sRet; rw [h]; rfl
theorem if_yes (h : S ρ φ = .ok true φ1) (h2 : P ρ φ1 = r) : sIf S P Q ρ φ = r := by unfold sIf; rw [h]; exact h2
theorem if_no (h : S ρ φ = .ok false φ1) (h2 : Q ρ φ1 = r) : sIf S P Q ρ φ = r := by unfold sIf; rw [h]; exact h2
/-- a test that must not hold -/
theorem if_skip (h : S ρ φ = .ok false φ1) : sIf S P sNil ρ φ = .nx ρ φ1 := if_no h rfl
theorem app_ok {i : Nat} {l : List D} (hi : ρ[i]? = some (some (.lst l))) (h : A ρ φ = .ok d φ1) (hl : l.length < sizeLine) : sMut i gApp A ρ φ = .nx (ρ.set i (some (.lst (l ++ [d])))) φ1 := by
  unfold sMut; rw [hi]; show (A ρ φ).toR ρ _ = _; rw [h]; show (match gApp l d with | some l' => R.nx (ρ.set i (some (.lst l'))) φ1 | none => .bad) = _
  unfold gApp; rw [if_pos hl]
theorem ext_ok {i : Nat} {l k : List D} (hi : ρ[i]? = some (some (.lst l))) (h : A ρ φ = .ok (.lst k) φ1) (hl : l.length + k.length ≤ sizeLine) : sMut i gExt A ρ φ = .nx (ρ.set i (some (.lst (l ++ k)))) φ1 := by
  unfold sMut; rw [hi]; show (A ρ φ).toR ρ _ = _; rw [h]; show (match gExt l (.lst k) with | some l' => R.nx (ρ.set i (some (.lst l'))) φ1 | none => .bad) = _
  unfold gExt; dsimp only; rw [if_pos hl]
theorem aug_ok {i : Nat} {f : Int → Int → Int} {n m : Int} (hi : ρ[i]? = some (some (.int n))) (h : A ρ φ = .ok (.int m) φ1) : sAug i f A ρ φ = .nx (ρ.set i (some (.int (f n m)))) φ1 := by
  unfold sAug; rw [hi]; show (A ρ φ).toR ρ _ = _; rw [h]; rfl
theorem scope_nx {own1 : List Ms} (h1 : P ρ φ = .nx ρ1 φ1) (h2 : Q (enOut own1 ρ1) φ1 = r) : sScope own1 P Q ρ φ = r := by unfold sScope; rw [h1]; exact h2
theorem scope_rt {own1 : List Ms} (h1 : P ρ φ = .rt d φ1) : sScope own1 P Q ρ φ = .rt d φ1 := by unfold sScope; rw [h1]
theorem for_ok {I : SA} {T : Tg} {ds : List D} (hI : I ρ φ = .ok ds φ1) (h : forGo T P ds ρ φ1 = r) : sFor I T P ρ φ = r := by unfold sFor; rw [hI]; exact h
theorem run_rt {n s : Nat} {ds : List D} (h : P (ds.map some ++ List.replicate (s - n) none) φ = .rt d φ1) : runB P n s ds φ = .ok d φ1 := by unfold runB; rw [h]
theorem run_nx {n s : Nat} {ds : List D} (h : P (ds.map some ++ List.replicate (s - n) none) φ = .nx ρ1 φ1) : runB P n s ds φ = .ok .non φ1 := by unfold runB; rw [h]
theorem run_ret {n s : Nat} {ds : List D} (h : A (ds.map some ++ List.replicate (s - n) none) φ = .ok d φ1) : runB (sSeq (sRet A) sNil) n s ds φ = .ok d φ1 := run_rt (seq_rt (ret_ok h))
end
/-! iterators -/
section
variable {ρ : En} {φ φ1 : Fd} {A : SX} {d : D}
theorem seq_l {l : List D} (h : A ρ φ = .ok (.lst l) φ1) : iSeq A ρ φ = .ok l φ1 := by unfold iSeq; rw [h]; rfl
theorem seq_t {l : List D} (h : A ρ φ = .ok (.tup l) φ1) : iSeq A ρ φ = .ok l φ1 := by unfold iSeq; rw [h]; rfl
theorem upTo_eq (n : Nat) (a : Int) : upTo a n = (List.range n).map fun (k : Nat) => D.int (a + k) := by
  refine List.ext_getElem? fun i => ?_
  by_cases h : i < n
  · rw [upTo_get n a i h, List.getElem?_map, List.getElem?_range h]; rfl
  · rw [List.getElem?_eq_none (by rw [upTo_len]; omega), List.getElem?_eq_none (by simp; omega)]
theorem bind_ok' {α β : Type} {x : O α} {a : α} {k : α → Fd → O β} (h : x = .ok a φ1) : x.bind k = k a φ1 := by rw [h]; rfl
theorem ofO_some {α : Type} {o : Option α} {a : α} (h : o = some a) : ofO o φ1 = .ok a φ1 := by rw [h]; rfl
theorem small62_of {j : Int} (h : -4611686018427387904 ≤ j ∧ j < 4611686018427387904) : small62 j = true := by
  unfold small62
  rw [Bool.and_eq_true, decide_eq_true_eq, decide_eq_true_eq]
  exact h
theorem rg1_some {n : Nat} (hn : n < 1000000000) : rg1 [.int (n : Int)] = some (upTo 0 n) := by
  have h1 : rg1 [.int (n : Int)] = if small62 (n : Int) then some (upTo 0 (n : Int).toNat) else none := by rw [rg1]
  rw [h1, small62_of ⟨by omega, by omega⟩, if_pos rfl, Int.toNat_natCast]
theorem rg1_ok {S : SA} {n : Nat} (h : S ρ φ = .ok [.int (n : Int)] φ1) (hn : n < 1000000000) : iRg1 S ρ φ = .ok ((List.range n).map fun (k : Nat) => D.int k) φ1 := by
  unfold iRg1
  rw [bind_ok' h, ofO_some (rg1_some hn), upTo_eq]
  congr 1
  exact List.map_congr_left fun k _ => by rw [Int.zero_add]
theorem rg2_some {a b : Int} (ha : small62 a = true) (hb : small62 b = true) : rg2 [.int a, .int b] = some (upTo a (b - a).toNat) := by
  have h1 : rg2 [.int a, .int b] = if (small62 a && small62 b) = true then some (upTo a (b - a).toNat) else none := by rw [rg2]
  rw [h1, ha, hb]; exact if_pos (by decide)
theorem rg2_ok {S : SA} {a b : Int} (h : S ρ φ = .ok [.int a, .int b] φ1) (ha : small62 a = true) (hb : small62 b = true) : iRg2 S ρ φ = .ok ((List.range (b - a).toNat).map fun (k : Nat) => D.int (a + k)) φ1 := by
  unfold iRg2
  rw [bind_ok' h, ofO_some (rg2_some ha hb), upTo_eq]
end
/-! comprehensions over mapped lists -/
section
variable {α : Type} {T : Tg} {tst : SB} {elt : SX} {ρ : En} {φ : Fd}
theorem lcGo_map (e : α → D) (p : α → Bool) (g : α → D) : ∀ (xs : List α), (∀ x ∈ xs, ∃ ρ1, T (e x) ρ = some ρ1 ∧ tst ρ1 φ = .ok (p x) φ ∧ (p x = true → elt ρ1 φ = .ok (g x) φ)) → lcGo T tst elt ρ (xs.map e) φ = .ok ((xs.filter p).map g) φ
  | [], _ => rfl
  | x :: xs, h => by
    obtain ⟨ρ1, h1, h2, h3⟩ := h x List.mem_cons_self
    have ih := lcGo_map e p g xs fun y hy => h y (List.mem_cons_of_mem _ hy)
    rw [List.map_cons]
    unfold lcGo
    rw [h1]
    simp only [h2]
    cases hp : p x with
    | false => simp only; rw [List.filter_cons_of_neg (by rw [hp]; decide)]; exact ih
    | true => simp only [h3 hp, ih]; rw [List.filter_cons_of_pos hp]; rfl
theorem lc_ok {I : SA} {vs : List Nat} {φ1 : Fd} (xs : List α) (e : α → D) (p : α → Bool) (g : α → D) (hI : I ρ φ1 = .ok (xs.map e) φ) (hl : xs.length ≤ sizeLine)
    (h : ∀ x ∈ xs, ∃ ρ1, T (e x) (wipeE ρ vs) = some ρ1 ∧ tst ρ1 φ = .ok (p x) φ ∧ (p x = true → elt ρ1 φ = .ok (g x) φ)) : eLc I T tst elt vs ρ φ1 = .ok (.lst ((xs.filter p).map g)) φ := by
  unfold eLc
  rw [hI]
  show (match lcGo T tst elt (wipeE ρ vs) (xs.map e) φ with | .ok ys φ2 => if ys.length ≤ sizeLine then O.ok (D.lst ys) φ2 else .bad | _ => .bad) = _
  rw [lcGo_map e p g xs h]
  show (if _ then _ else _) = _
  rw [if_pos (by rw [List.length_map]; exact Nat.le_trans (List.length_filter_le _ _) hl)]
/-- without a test -/
theorem lcm_ok {I : SA} {vs : List Nat} {φ1 : Fd} (xs : List α) (e : α → D) (g : α → D) (hI : I ρ φ1 = .ok (xs.map e) φ) (hl : xs.length ≤ sizeLine)
    (h : ∀ x ∈ xs, ∃ ρ1, T (e x) (wipeE ρ vs) = some ρ1 ∧ elt ρ1 φ = .ok (g x) φ) : eLc I T bYes elt vs ρ φ1 = .ok (.lst (xs.map g)) φ := by
  have := lc_ok (tst := bYes) xs e (fun _ => true) g hI hl fun x hx => by
    obtain ⟨ρ1, h1, h2⟩ := h x hx
    exact ⟨ρ1, h1, rfl, fun _ => h2⟩
  rw [this, List.filter_eq_self.mpr fun _ _ => rfl]
/-- a loop with what holds of the slots -/
theorem for_inv {B : SS} {e : α → D} (P : List α → En → Prop) : ∀ (xs pre : List α) {ρ : En}, P pre ρ → (∀ (pre' : List α) (x : α) (post : List α) (ρ : En), pre ++ xs = pre' ++ x :: post → P pre' ρ → ∃ ρ1, T (e x) ρ = some ρ1 ∧ ∃ ρ2, (B ρ1 φ = .nx ρ2 φ ∨ B ρ1 φ = .ct ρ2 φ) ∧ P (pre' ++ [x]) ρ2) →
    ∃ ρ', forGo T B (xs.map e) ρ φ = .nx ρ' φ ∧ P (pre ++ xs) ρ'
  | [], pre, ρ, h0, _ => ⟨ρ, rfl, by simpa using h0⟩
  | x :: xs, pre, ρ, h0, hs => by
    obtain ⟨ρ1, h1, ρ2, h2, h3⟩ := hs pre x xs ρ rfl h0
    obtain ⟨ρ', h4, h5⟩ := for_inv (B := B) (e := e) P xs (pre ++ [x]) h3 fun pre' y post ρ e' hp => hs pre' y post ρ (by rw [← e']; simp) hp
    refine ⟨ρ', ?_, by simpa using h5⟩
    rw [List.map_cons]
    unfold forGo
    rw [h1]
    rcases h2 with h2 | h2 <;> simp only [h2] <;> exact h4
end

/-! ## rows -/
def row (r : List Int) : D := .lst (r.map .int)
def rws (l : List (List Int)) : D := .lst (l.map row)
theorem gSum_ints (ns : List Int) : gSum [row ns] = some (.int ns.sum) := by
  show (intsOf (ns.map D.int)).map (fun ns => D.int ns.sum) = _
  rw [intsOf_map]; rfl
theorem gSum_ints' (ns : List Int) : gSum [.lst (ns.map .int)] = some (.int ns.sum) := gSum_ints ns
theorem gMul_ok' {i j : Int} (h : i.natAbs < 18446744073709551616) : gMul (.int i) (.int j) = some (.int (i * j)) := by
  show (if cMul i j = true then _ else _) = _
  rw [if_pos]
  unfold cMul
  simp [h]
theorem gDiv_ok {i j : Int} (h0 : j ≠ 0) (h1 : j.natAbs < 1073741824) : gDiv (.int i) (.int j) = some (.int (i.fdiv j)) := by
  show (if cDiv i j = true then _ else _) = _
  rw [if_pos]
  unfold cDiv
  simp [h0, h1]
theorem gMod_ok {i j : Int} (h0 : j ≠ 0) : gMod (.int i) (.int j) = some (.int (i.fmod j)) := by
  show (if decide (j ≠ 0) = true then _ else _) = _
  rw [if_pos (by simp [h0])]
theorem gIx_row {r : List Int} {k : Nat} {x : Int} (h : r[k]? = some x) : gIx (row r) (.int (k : Int)) = some (.int x) := by
  show atI (r.map D.int) (k : Int) = _
  rw [atI_nat (by rw [List.getElem?_map, h]; rfl)]
theorem gIx_lst {l : List D} {k : Nat} {x : D} (h : l[k]? = some x) : gIx (.lst l) (.int (k : Int)) = some x := by
  show atI l (k : Int) = _
  rw [atI_nat h]
theorem size_le {n : Nat} (h : n ≤ 1000000) : n ≤ sizeLine := by rw [sizeLine_eq]; omega
theorem size_lt {n : Nat} (h : n ≤ 1000000) : n < sizeLine := by rw [sizeLine_eq]; omega
end Pf

set_option Elab.async false
set_option linter.all false
set_option maxRecDepth 100000
set_option maxHeartbeats 4000000
namespace Pf
open PySem PySem.Spec PyProof.Rows L2

/-! ## data of one shape: equality and order -/
def ltL {α : Type} [DecidableEq α] (lt : α → α → Bool) : List α → List α → Bool
  | [], [] => false
  | [], _ :: _ => true
  | _ :: _, [] => false
  | a :: r, b :: s => if a = b then ltL lt r s else lt a b
structure Tot {α : Type} (lt : α → α → Bool) : Prop where
  irr : ∀ a, lt a a = false
  tr : ∀ a b c, lt a b = true → lt b c = true → lt a c = true
  tri : ∀ a b, lt a b = false → lt b a = false → a = b
theorem Tot.asym {α : Type} {lt : α → α → Bool} (h : Tot lt) {a b : α} (q : lt a b = true) : lt b a = false := by
  cases e : lt b a with
  | false => rfl
  | true => have := h.tr a b a q e; rw [h.irr] at this; cases this
theorem tot_int : Tot (fun a b : Int => decide (a < b)) := ⟨fun a => by simp, fun a b c h1 h2 => by simp at *; omega, fun a b h1 h2 => by simp at *; omega⟩
theorem tot_lst {α : Type} [DecidableEq α] {lt : α → α → Bool} (h : Tot lt) : Tot (ltL lt) := by
  refine ⟨fun a => ?_, fun a => ?_, fun a => ?_⟩
  · induction a with
    | nil => rfl
    | cons x r ih => show (if x = x then _ else _) = _; rw [if_pos rfl]; exact ih
  · induction a with
    | nil => intro b c h1 h2; cases b <;> cases c <;> first | (cases h1; done) | (cases h2; done) | rfl
    | cons x r ih =>
      intro b c h1 h2
      cases b with
      | nil => cases h1
      | cons y s =>
        cases c with
        | nil => cases h2
        | cons z t =>
          have h1' : (if x = y then ltL lt r s else lt x y) = true := h1
          have h2' : (if y = z then ltL lt s t else lt y z) = true := h2
          show (if x = z then ltL lt r t else lt x z) = true
          by_cases e1 : x = y
          · rw [if_pos e1] at h1'
            subst e1
            by_cases e2 : x = z
            · rw [if_pos e2] at h2' ⊢; exact ih s t h1' h2'
            · rw [if_neg e2] at h2' ⊢; exact h2'
          · rw [if_neg e1] at h1'
            by_cases e2 : y = z
            · subst e2
              rw [if_neg e1]; exact h1'
            · rw [if_neg e2] at h2'
              by_cases e3 : x = z
              · subst e3
                have := h.tr _ _ _ h1' h2'
                rw [h.irr] at this; cases this
              · rw [if_neg e3]; exact h.tr _ _ _ h1' h2'
  · induction a with
    | nil => intro b h1 h2; cases b <;> first | rfl | (cases h1; done)
    | cons x r ih =>
      intro b h1 h2
      cases b with
      | nil => cases h2
      | cons y s =>
        have h1' : (if x = y then ltL lt r s else lt x y) = false := h1
        have h2' : (if y = x then ltL lt s r else lt y x) = false := h2
        by_cases e1 : x = y
        · subst e1
          rw [if_pos rfl] at h1' h2'
          rw [ih s h1' h2']
        · rw [if_neg e1] at h1'
          rw [if_neg (Ne.symm e1)] at h2'
          exact absurd (h.tri _ _ h1' h2') e1
/-- data f x, compared as x -/
structure Emb {α : Type} [DecidableEq α] (f : α → D) (lt : α → α → Bool) (n : Nat) : Prop where
  al : ∀ x y, PySem.W.alike (f x).py (f y).py = true
  eq : ∀ x y, PyData.eqv (f x).py (f y).py = decide (x = y)
  lt : ∀ x y, ltD (f x) (f y) = lt x y
  lay : ∀ x, (f x).py.canLay0 = true
  dep : ∀ x, (f x).py.depth ≤ n
  nn : ∀ x, f x ≠ .non
  nt : ∀ x l, f x ≠ .tup l
theorem emb_int : Emb D.int (fun a b => decide (a < b)) 0 :=
  ⟨fun _ _ => rfl, fun x y => by show PyData.eqv (.int x) (.int y) = _; simp only [PyData.eqv]; rfl, fun x y => PySem.W.dataLt_int x y, fun _ => rfl, fun _ => Nat.le_refl _, fun _ h => (by cases h), fun _ _ h => (by cases h)⟩
section
variable {α : Type} [DecidableEq α] {f : α → D} {lt : α → α → Bool} {n : Nat}
theorem pys_map (xs : List α) : D.pys (xs.map f) = xs.map fun x => (f x).py := by
  induction xs with
  | nil => rfl
  | cons x r ih => show (f x).py :: D.pys (r.map f) = _; rw [ih]; rfl
theorem alikeAll_map (h : Emb f lt n) : ∀ xs ys : List α, PySem.W.alikeAll (xs.map fun x => (f x).py) (ys.map fun x => (f x).py) = true
  | [], _ => by cases ‹List α› <;> simp [PySem.W.alikeAll]
  | _ :: _, [] => by simp [PySem.W.alikeAll]
  | x :: xs, y :: ys => by
    rw [List.map_cons, List.map_cons, PySem.W.alikeAll, h.al, alikeAll_map h xs ys]; rfl
theorem eqvAll_map (h : Emb f lt n) : ∀ xs ys : List α, PyData.eqvAll (xs.map fun x => (f x).py) (ys.map fun x => (f x).py) = decide (xs = ys)
  | [], [] => by simp [PyData.eqvAll]
  | [], _ :: _ => by simp [PyData.eqvAll]
  | _ :: _, [] => by simp [PyData.eqvAll]
  | x :: xs, y :: ys => by
    rw [List.map_cons, List.map_cons, PySem.W.eqv_all_cons, h.eq, eqvAll_map h xs ys]
    by_cases e1 : x = y <;> by_cases e2 : xs = ys <;> simp [e1, e2]
theorem lt_map (h : Emb f lt n) : ∀ xs ys : List α, PyProof.Rows.lexLt itemOrd (PySem.W.keyToksAll (xs.map fun x => (f x).py)) (PySem.W.keyToksAll (ys.map fun x => (f x).py)) = ltL lt xs ys
  | [], [] => by simp [ltL, PyProof.Rows.lex_irrefl]
  | [], y :: ys => by
    rw [List.map_cons, PySem.W.toks_all_cons]
    simp only [List.map_nil, PySem.W.keyToksAll]
    rw [lex_diff (O := itemOrd) (by simp)]
    simp [ltL, itemLt]
  | x :: xs, [] => by
    rw [List.map_cons, PySem.W.toks_all_cons]
    simp only [List.map_nil, PySem.W.keyToksAll]
    rw [lex_diff (O := itemOrd) (by simp)]
    simp [ltL, itemLt]
  | x :: xs, y :: ys => by
    rw [List.map_cons, List.map_cons]
    show _ = (if x = y then ltL lt xs ys else lt x y)
    by_cases e : x = y
    · rw [if_pos e, PySem.W.dataLt_all_yes (h.al x y) (by rw [h.eq, e]; simp)]
      exact lt_map h xs ys
    · rw [if_neg e, PySem.W.dataLt_all_no (h.al x y) (by rw [h.eq]; simp [e])]
      exact h.lt x y
theorem lay_map (h : Emb f lt n) : ∀ xs : List α, PyData.canLayAll0 (xs.map fun x => (f x).py) = true
  | [] => by simp [PyData.canLayAll0]
  | x :: xs => by rw [List.map_cons, PyData.canLayAll0, h.lay, lay_map h xs]; rfl
theorem dep_map (h : Emb f lt n) : ∀ xs : List α, PyData.depthAll (xs.map fun x => (f x).py) ≤ n
  | [] => by simp [PyData.depthAll]
  | x :: xs => by
    rw [List.map_cons, PyData.depthAll]
    have h1 := h.dep x
    have h2 := dep_map h xs
    omega
theorem Emb.list (h : Emb f lt n) : Emb (fun xs : List α => D.lst (xs.map f)) (ltL lt) (n + 1) := by
  have py : ∀ xs : List α, (D.lst (xs.map f)).py = .list (xs.map fun x => (f x).py) := fun xs => by
    show PyData.list (D.pys (xs.map f)) = _
    rw [pys_map]
  refine ⟨fun x y => ?_, fun x y => ?_, fun x y => ?_, fun x => ?_, fun x => ?_, fun x e => (by cases e), fun x l e => (by cases e)⟩
  · rw [py, py, PySem.W.alike]; exact alikeAll_map h x y
  · rw [py, py, PyData.eqv]; exact eqvAll_map h x y
  · unfold ltD; rw [py, py, PySem.W.dataLt_list]; exact lt_map h x y
  · rw [py, PyData.canLay0]; exact lay_map h x
  · rw [py, PyData.depth]
    have := dep_map h x
    omega
theorem Emb.shp (h : Emb f lt n) (hn : n ≤ 64) (x : α) : (f x).shp = true := by
  unfold D.shp SeqAt.shaped
  rw [h.lay, Bool.true_and, decide_eq_true_eq]
  have := h.dep x
  omega
theorem Emb.gEq (h : Emb f lt n) (hn : n ≤ 64) (x y : α) : gEq (f x) (f y) = some (.bl (decide (x = y))) := by
  unfold Pf.gEq
  rw [h.shp hn, h.shp hn]
  show some (D.bl _) = _
  rw [h.eq]
theorem Emb.gNe (h : Emb f lt n) (hn : n ≤ 64) (x y : α) : gNe (f x) (f y) = some (.bl (!decide (x = y))) := by
  unfold Pf.gNe
  rw [h.shp hn, h.shp hn]
  show some (D.bl _) = _
  rw [h.eq]
theorem Emb.gIn (h : Emb f lt n) (hn : n < 64) (neg : Bool) (x : α) (l : List α) : gIn neg (f x) (.lst (l.map f)) = some (.bl (if neg then !decide (x ∈ l) else decide (x ∈ l))) := by
  unfold Pf.gIn
  have h1 : gInB (f x) (.lst (l.map f)) = some (decide (x ∈ l)) := by
    have hs := h.list.shp (n := n + 1) (by omega) l
    have h0 : gInB (f x) (.lst (l.map f)) = if (f x).shp && (D.lst (l.map f)).shp then some ((l.map f).any fun z => PyData.eqv z.py (f x).py) else none := by
      unfold gInB
      rfl
    rw [h0, h.shp (by omega), hs]
    show some _ = _
    congr 1
    rw [List.any_map]
    induction l with
    | nil => rfl
    | cons y l ih =>
      rw [List.any_cons, ih (h.list.shp (n := n + 1) (by omega) l) (by unfold gInB; rfl)]
      show (PyData.eqv (f y).py (f x).py || _) = _
      rw [h.eq]
      by_cases e : y = x <;> by_cases e2 : x ∈ l <;> simp [e, e2, eq_comm]
      all_goals simp [Ne.symm e]
  rw [h1]
  rfl
def leL (lt : α → α → Bool) (x y : α) : Bool := !lt y x
theorem Emb.okSort (h : Emb f lt n) (hn : n ≤ 64) (l : List α) : okSort (l.map f) := by
  refine ⟨fun d hd e he => ?_, fun d hd => ?_, .inr fun d hd => ?_⟩
  · obtain ⟨x, _, rfl⟩ := List.mem_map.mp hd
    obtain ⟨y, _, rfl⟩ := List.mem_map.mp he
    exact h.al x y
  · obtain ⟨x, _, rfl⟩ := List.mem_map.mp hd
    exact h.shp hn x
  · obtain ⟨x, _, rfl⟩ := List.mem_map.mp hd
    exact ⟨h.nn x, h.nt x⟩
theorem Emb.sort (h : Emb f lt n) (l : List α) : sortD (l.map f) = (l.mergeSort (leL lt)).map f :=
  (List.map_mergeSort (f := f) (r := leL lt) (s := leD) fun a _ b _ => by unfold leL leD; rw [h.lt]).symm
theorem Emb.gSorted (h : Emb f lt n) (hn : n ≤ 64) (l : List α) : gSorted [.lst (l.map f)] = some (.lst ((l.mergeSort (leL lt)).map f)) := by
  rw [gSorted_l (h.okSort hn l), h.sort]
/-- the sorted list is the only one -/
theorem sorted_uniq (T : Tot lt) : ∀ {l m : List α}, l.Pairwise (fun a b => leL lt a b = true) → m.Pairwise (fun a b => leL lt a b = true) → l.Perm m → l = m
  | [], m, _, _, h => (List.Perm.nil_eq h)
  | x :: l, [], _, _, h => by cases h.length_eq
  | x :: l, y :: m, h1, h2, h => by
    have e : x = y := by
      obtain ⟨p1, q1⟩ := List.pairwise_cons.mp h1
      obtain ⟨p2, q2⟩ := List.pairwise_cons.mp h2
      rcases List.mem_cons.mp (h.mem_iff.mp List.mem_cons_self) with e | hx
      · exact e
      · rcases List.mem_cons.mp (h.mem_iff.mpr (List.mem_cons_self (a := y) (l := m))) with e | hy
        · exact e.symm
        · have a1 := p2 x hx
          have a2 := p1 y hy
          unfold leL at a1 a2
          exact T.tri x y (by simpa using a1) (by simpa using a2)
    subst e
    rw [sorted_uniq T (List.pairwise_cons.mp h1).2 (List.pairwise_cons.mp h2).2 h.cons_inv]
theorem leL_trans (T : Tot lt) (a b c : α) (h1 : leL lt a b = true) (h2 : leL lt b c = true) : leL lt a c = true := by
  unfold leL at *
  rw [Bool.not_eq_true'] at *
  cases e : lt c a with
  | false => rfl
  | true =>
    cases e1 : lt a b with
    | true => have := T.tr c a b e e1; rw [h2] at this; cases this
    | false =>
      have := T.tri a b e1 h1
      subst this
      rw [h2] at e; cases e
theorem leL_total (T : Tot lt) (a b : α) : (leL lt a b || leL lt b a) = true := by
  unfold leL
  cases e : lt b a with
  | false => rfl
  | true => rw [T.asym e]; rfl
theorem sort_pw (T : Tot lt) (l : List α) : (l.mergeSort (leL lt)).Pairwise fun a b => leL lt a b = true :=
  List.pairwise_mergeSort (leL_trans T) (leL_total T) l
theorem sort_is (T : Tot lt) {l m : List α} (h1 : m.Pairwise fun a b => leL lt a b = true) (h2 : m.Perm l) : l.mergeSort (leL lt) = m :=
  sorted_uniq T (sort_pw T l) h1 ((List.mergeSort_perm l _).trans h2.symm)
theorem sort_perm (T : Tot lt) {l m : List α} (h : l.Perm m) : l.mergeSort (leL lt) = m.mergeSort (leL lt) :=
  sort_is T (sort_pw T m) ((List.mergeSort_perm m _).trans h.symm)
end
abbrev ltI : Int → Int → Bool := fun a b => decide (a < b)
abbrev ltR : List Int → List Int → Bool := ltL ltI
abbrev ltRR : List (List Int) → List (List Int) → Bool := ltL ltR
theorem emb_row : Emb row ltR 1 := emb_int.list
theorem emb_rws : Emb rws ltRR 2 := emb_row.list
theorem tot_row : Tot ltR := tot_lst tot_int
theorem tot_rws : Tot ltRR := tot_lst tot_row
end Pf

set_option Elab.async false
set_option linter.all false
set_option maxRecDepth 100000
set_option maxHeartbeats 4000000
namespace Pf
open PySem PySem.Spec PyProof.Rows L2
def d5 (n : Nat) : Int := match n with
  | 0 => -2
  | 1 => -1
  | 2 => 0
  | 3 => 1
  | _ => 2
def dec (n : Nat) : List Int := [d5 (n / 78125 % 5), d5 (n / 15625 % 5), d5 (n / 3125 % 5), d5 (n / 625 % 5), d5 (n / 125 % 5), d5 (n / 25 % 5), d5 (n / 5 % 5), d5 (n % 5)]
def codes : List Nat := [7812, 32812, 37812, 38812, 39012, 39052, 39060, 39064, 39072, 39112, 39312, 40312, 45312, 70312, 97656, 97668, 97708, 97716, 97908, 97916, 97956, 97968, 98908, 98916, 98956, 98968, 99156, 99168, 99208, 99216, 103908, 103916, 103956, 103968, 104156, 104168, 104208, 104216, 105156, 105168, 105208, 105216, 105408, 105416, 105456, 105468, 128908, 128916, 128956, 128968, 129156, 129168, 129208, 129216, 130156, 130168, 130208, 130216, 130408, 130416, 130456, 130468, 135156, 135168, 135208, 135216, 135408, 135416, 135456, 135468, 136408, 136416, 136456, 136468, 136656, 136668, 136708, 136716, 157812, 162812, 163812, 164012, 164052, 164060, 164064, 164072, 164112, 164312, 165312, 170312, 187812, 188812, 189012, 189052, 189060, 189064, 189072, 189112, 189312, 190312, 193812, 194012, 194052, 194060, 194064, 194072, 194112, 194312, 195012, 195052, 195060, 195064, 195072, 195112, 195252, 195260, 195264, 195272, 195300, 195304, 195320, 195324, 195352, 195360, 195364, 195372, 195512, 195552, 195560, 195564, 195572, 195612, 196312, 196512, 196552, 196560, 196564, 196572, 196612, 196812, 200312, 201312, 201512, 201552, 201560, 201564, 201572, 201612, 201812, 202812, 220312, 225312, 226312, 226512, 226552, 226560, 226564, 226572, 226612, 226812, 227812, 232812, 253908, 253916, 253956, 253968, 254156, 254168, 254208, 254216, 255156, 255168, 255208, 255216, 255408, 255416, 255456, 255468, 260156, 260168, 260208, 260216, 260408, 260416, 260456, 260468, 261408, 261416, 261456, 261468, 261656, 261668, 261708, 261716, 285156, 285168, 285208, 285216, 285408, 285416, 285456, 285468, 286408, 286416, 286456, 286468, 286656, 286668, 286708, 286716, 291408, 291416, 291456, 291468, 291656, 291668, 291708, 291716, 292656, 292668, 292708, 292716, 292908, 292916, 292956, 292968, 320312, 345312, 350312, 351312, 351512, 351552, 351560, 351564, 351572, 351612, 351812, 352812, 357812, 382812]
/-- the 240 roots, ascending -/
def RT : List (List Int) := codes.map dec
def EV : List (List Int) := (List.range 8).flatMap fun j => (List.range j).flatMap fun i => [((2 : Int), (2 : Int)), (2, -2), (-2, 2), (-2, -2)].map fun p => ((List.replicate 8 (0 : Int)).set i p.1).set j p.2
def grow : Nat → List (List Int)
  | 0 => [[]]
  | n + 1 => (grow n).flatMap fun r => [r ++ [(-1 : Int)], r ++ [1]]
def OD : List (List Int) := (grow 8).filter fun r => r.sum.fmod 4 == 0
def LR : List (List Int) := ((List.range 8).flatMap fun i => (List.range (8 - (i + 1))).flatMap fun t => [(-2 : Int), 2].flatMap fun a => [(-2 : Int), 2].map fun b => ((List.replicate 8 (0 : Int)).set i a).set (i + 1 + t) b) ++
  ((List.range 256).map fun bits => (List.range 8).map fun k => 1 - 2 * (((bits >>> k) % 2 : Nat) : Int)).filter fun r => r.sum.fmod 4 == 0
def chainB (l : List (List Int)) : Bool := (l.zip l.tail).all fun p => ltR p.1 p.2
theorem RT_len : RT.length = 240 := by decide +kernel
theorem RT_chain : chainB RT = true := by decide +kernel
theorem RT_eo : RT.Perm (EV ++ OD) := by
  have : List.isPerm RT (EV ++ OD) = true := by decide +kernel
  exact List.isPerm_iff.mp this
theorem RT_lr : RT.Perm LR := by
  have : List.isPerm RT LR = true := by decide +kernel
  exact List.isPerm_iff.mp this
theorem chain_pw : ∀ l : List (List Int), chainB l = true → l.Pairwise fun a b => ltR a b = true
  | [], _ => .nil
  | [x], _ => List.pairwise_singleton _ _
  | x :: y :: r, h => by
    have h' : (ltR x y && chainB (y :: r)) = true := h
    rw [Bool.and_eq_true] at h'
    have ih := chain_pw (y :: r) h'.2
    refine List.pairwise_cons.mpr ⟨fun z hz => ?_, ih⟩
    rcases List.mem_cons.mp hz with rfl | hz
    · exact h'.1
    · exact tot_row.tr _ _ _ h'.1 ((List.pairwise_cons.mp ih).1 z hz)
theorem RT_lt : RT.Pairwise fun a b => ltR a b = true := chain_pw _ RT_chain
theorem lt_le {α : Type} [DecidableEq α] {lt : α → α → Bool} (T : Tot lt) {l : List α} (h : l.Pairwise fun a b => lt a b = true) : l.Pairwise fun a b => leL lt a b = true :=
  h.imp fun {a b} q => by unfold leL; rw [T.asym q]; rfl
theorem lt_nodup {α : Type} [DecidableEq α] {lt : α → α → Bool} (T : Tot lt) {l : List α} (h : l.Pairwise fun a b => lt a b = true) : l.Nodup :=
  h.imp fun {a b} q e => by rw [e, T.irr] at q; cases q
theorem RT_nodup : RT.Nodup := lt_nodup tot_row RT_lt
theorem RT_eo_sort : (EV ++ OD).mergeSort (leL ltR) = RT := sort_is tot_row (lt_le tot_row RT_lt) RT_eo
theorem RT_lr_sort : LR.mergeSort (leL ltR) = RT := sort_is tot_row (lt_le tot_row RT_lt) RT_lr
theorem RT_row : ∀ r ∈ RT, r.length = 8 ∧ ∀ x ∈ r, -2 ≤ x ∧ x ≤ 2 := by decide +kernel
end Pf

set_option Elab.async false
set_option linter.all false
set_option maxRecDepth 100000
set_option maxHeartbeats 4000000
namespace Pf
open PySem PySem.Spec PyProof.Rows L2

/-! ## the algebra of rows -/
def Rw (r : List Int) : Prop := r.length = 8 ∧ ∀ x ∈ r, x.natAbs ≤ 1000000
def mulS (r s : List Int) : Int := (List.zipWith (fun a b => a * b) r s).sum
def dot (r s : List Int) : Int := (mulS r s).fdiv 4
def add (r s : List Int) : List Int := List.zipWith (fun a b => a + b) r s
def smul (a : Int) (r : List Int) : List Int := r.map fun x => a * x
def less (r s : List Int) (m : Int) : List Int := List.zipWith (fun a b => a - m * b) r s
/-- the row mirrored by the root g -/
def mir (g x : List Int) : List Int := less x g (dot g x)
theorem mulS_comm : ∀ r s : List Int, mulS r s = mulS s r
  | [], [] => rfl
  | [], _ :: _ => rfl
  | _ :: _, [] => rfl
  | a :: r, b :: s => by
    have ih := mulS_comm r s
    unfold mulS at ih ⊢
    rw [List.zipWith_cons_cons, List.zipWith_cons_cons, List.sum_cons, List.sum_cons, ih, Int.mul_comm]
theorem dot_comm (r s : List Int) : dot r s = dot s r := by unfold dot; rw [mulS_comm]
theorem mulS_cons (a b : Int) (r s : List Int) : mulS (a :: r) (b :: s) = a * b + mulS r s := by unfold mulS; rw [List.zipWith_cons_cons, List.sum_cons]
theorem mulS_add : ∀ {r s t : List Int}, r.length = s.length → mulS (add r s) t = mulS r t + mulS s t
  | [], [], t, _ => by cases t <;> rfl
  | a :: r, b :: s, [], _ => by simp [mulS]
  | a :: r, b :: s, c :: t, h => by
    have ih := mulS_add (t := t) (Nat.succ.inj h : r.length = s.length)
    show mulS ((a + b) :: add r s) (c :: t) = _
    rw [mulS_cons, mulS_cons, mulS_cons, ih, Int.add_mul]
    omega
theorem mulS_smul (m : Int) : ∀ (r t : List Int), mulS (smul m r) t = m * mulS r t
  | [], t => by cases t <;> simp [mulS, smul]
  | a :: r, [] => by simp [mulS, smul]
  | a :: r, c :: t => by
    show mulS ((m * a) :: smul m r) (c :: t) = _
    rw [mulS_cons, mulS_cons, mulS_smul m r t, Int.mul_add, Int.mul_assoc]
theorem mulS_less (m : Int) : ∀ {r s t : List Int}, r.length = s.length → mulS (less r s m) t = mulS r t - m * mulS s t
  | [], [], t, _ => by cases t <;> simp [mulS, less]
  | a :: r, b :: s, [], _ => by simp [mulS]
  | a :: r, b :: s, c :: t, h => by
    have ih := mulS_less m (t := t) (Nat.succ.inj h : r.length = s.length)
    show mulS ((a - m * b) :: less r s m) (c :: t) = _
    rw [mulS_cons, mulS_cons, mulS_cons, ih, Int.sub_mul, Int.mul_add, Int.mul_assoc]
    omega
theorem mulS_less' (m : Int) {r s t : List Int} (h : r.length = s.length) : mulS t (less r s m) = mulS t r - m * mulS t s := by
  rw [mulS_comm, mulS_less m h, mulS_comm r, mulS_comm s]
theorem less_len {r s : List Int} {m : Int} (h : r.length = s.length) : (less r s m).length = r.length := by unfold less; rw [List.length_zipWith]; omega
theorem add_len {r s : List Int} (h : r.length = s.length) : (add r s).length = r.length := by unfold add; rw [List.length_zipWith]; omega
theorem smul_len {r : List Int} {m : Int} : (smul m r).length = r.length := by unfold smul; rw [List.length_map]

/-! ## what a root is -/
/-- whole rows: alike by two, the sum a multiple of 4 -/
def Lat (x : List Int) : Prop := x.length = 8 ∧ (∀ a ∈ x, (a - x.headD 0) % 2 = 0) ∧ x.sum % 4 = 0
instance (x : List Int) : Decidable (Lat x) := by unfold Lat; infer_instance
def rootB (x : List Int) : Bool := x.all (fun a => (a - x.headD 0) % 2 == 0) && x.sum % 4 == 0 && mulS x x == 8
theorem odd_roots_in : ∀ a ∈ [(-1 : Int), 1], ∀ b ∈ [(-1 : Int), 1], ∀ c ∈ [(-1 : Int), 1], ∀ d ∈ [(-1 : Int), 1], ∀ e ∈ [(-1 : Int), 1], ∀ f ∈ [(-1 : Int), 1], ∀ g ∈ [(-1 : Int), 1], ∀ h ∈ [(-1 : Int), 1],
    rootB [a, b, c, d, e, f, g, h] = true → [a, b, c, d, e, f, g, h] ∈ RT := by decide +kernel
theorem even_roots_in : ∀ a ∈ [(-2 : Int), 0, 2], ∀ b ∈ [(-2 : Int), 0, 2], ∀ c ∈ [(-2 : Int), 0, 2], ∀ d ∈ [(-2 : Int), 0, 2], ∀ e ∈ [(-2 : Int), 0, 2], ∀ f ∈ [(-2 : Int), 0, 2], ∀ g ∈ [(-2 : Int), 0, 2], ∀ h ∈ [(-2 : Int), 0, 2],
    rootB [a, b, c, d, e, f, g, h] = true → [a, b, c, d, e, f, g, h] ∈ RT := by decide +kernel
theorem RT_rootB : RT.all (fun x => rootB x) = true := by decide +kernel
theorem sq_nn (a : Int) : 0 ≤ a * a := by
  rcases Int.le_total 0 a with h | h
  · exact Int.mul_nonneg h h
  · exact Int.mul_nonneg_of_nonpos_of_nonpos h h
theorem sq_le {a : Int} (h : a * a ≤ 8) : -2 ≤ a ∧ a ≤ 2 := by
  constructor
  · rcases (show a < -2 ∨ -2 ≤ a by omega) with q | q
    · have : 3 * 3 ≤ (-a) * (-a) := Int.mul_le_mul (by omega) (by omega) (by decide) (by omega)
      rw [Int.neg_mul_neg] at this
      omega
    · exact q
  · rcases (show 2 < a ∨ a ≤ 2 by omega) with q | q
    · have : 3 * 3 ≤ a * a := Int.mul_le_mul (by omega) (by omega) (by decide) (by omega)
      omega
    · exact q
theorem mem_odd {a : Int} (h1 : -2 ≤ a) (h2 : a ≤ 2) (h3 : a % 2 = 1) : a ∈ [(-1 : Int), 1] := by
  have : a = -1 ∨ a = 1 := by omega
  rcases this with rfl | rfl <;> decide
theorem mem_even {a : Int} (h1 : -2 ≤ a) (h2 : a ≤ 2) (h3 : a % 2 = 0) : a ∈ [(-2 : Int), 0, 2] := by
  have : a = -2 ∨ a = 0 ∨ a = 2 := by omega
  rcases this with rfl | rfl | rfl <;> decide
theorem RT_of {x : List Int} (hl : x.length = 8) (h : rootB x = true) : x ∈ RT := by
  match x, hl with
  | [a, b, c, d, e, f, g, i], _ =>
    have h0 := h
    unfold rootB at h
    rw [Bool.and_eq_true, Bool.and_eq_true] at h
    obtain ⟨⟨h1, _⟩, h3⟩ := h
    have h3' : mulS [a, b, c, d, e, f, g, i] [a, b, c, d, e, f, g, i] = 8 := by simpa using h3
    have e3 : a * a + (b * b + (c * c + (d * d + (e * e + (f * f + (g * g + (i * i + 0))))))) = 8 := h3'
    have p1 := sq_nn a
    have p2 := sq_nn b
    have p3 := sq_nn c
    have p4 := sq_nn d
    have p5 := sq_nn e
    have p6 := sq_nn f
    have p7 := sq_nn g
    have p8 := sq_nn i
    obtain ⟨a1, a2⟩ := sq_le (a := a) (by omega)
    obtain ⟨b1, b2⟩ := sq_le (a := b) (by omega)
    obtain ⟨c1, c2⟩ := sq_le (a := c) (by omega)
    obtain ⟨d1, d2⟩ := sq_le (a := d) (by omega)
    obtain ⟨e1, e2⟩ := sq_le (a := e) (by omega)
    obtain ⟨f1, f2⟩ := sq_le (a := f) (by omega)
    obtain ⟨g1, g2⟩ := sq_le (a := g) (by omega)
    obtain ⟨i1, i2⟩ := sq_le (a := i) (by omega)
    clear e3 h3' h3 p1 p2 p3 p4 p5 p6 p7 p8
    have q : (a - a) % 2 = 0 ∧ (b - a) % 2 = 0 ∧ (c - a) % 2 = 0 ∧ (d - a) % 2 = 0 ∧ (e - a) % 2 = 0 ∧ (f - a) % 2 = 0 ∧ (g - a) % 2 = 0 ∧ (i - a) % 2 = 0 := by
      simpa using h1
    obtain ⟨_, q2, q3, q4, q5, q6, q7, q8⟩ := q
    by_cases ho : a % 2 = 1
    · exact odd_roots_in a (mem_odd a1 a2 ho) b (mem_odd b1 b2 (by omega)) c (mem_odd c1 c2 (by omega)) d (mem_odd d1 d2 (by omega)) e (mem_odd e1 e2 (by omega)) f (mem_odd f1 f2 (by omega)) g (mem_odd g1 g2 (by omega)) i (mem_odd i1 i2 (by omega)) h0
    · exact even_roots_in a (mem_even a1 a2 (by omega)) b (mem_even b1 b2 (by omega)) c (mem_even c1 c2 (by omega)) d (mem_even d1 d2 (by omega)) e (mem_even e1 e2 (by omega)) f (mem_even f1 f2 (by omega)) g (mem_even g1 g2 (by omega)) i (mem_even i1 i2 (by omega)) h0
/-- a root: so and no otherwise -/
theorem RT_iff {x : List Int} : x ∈ RT ↔ x.length = 8 ∧ rootB x = true :=
  ⟨fun h => ⟨(RT_row x h).1, List.all_eq_true.mp RT_rootB x h⟩, fun h => RT_of h.1 h.2⟩
theorem RT_sq {x : List Int} (h : x ∈ RT) : mulS x x = 8 := by
  have := (RT_iff.mp h).2
  unfold rootB at this
  rw [Bool.and_eq_true] at this
  simpa using this.2
theorem RT_rw {r : List Int} (h : r ∈ RT) : Rw r := ⟨(RT_row r h).1, fun x hx => by have := (RT_row r h).2 x hx; omega⟩
theorem RT_l8 {r : List Int} (h : r ∈ RT) : r.length = 8 := (RT_row r h).1
/-! ## whole rows -/
theorem sq_mod (a : Int) : (a * a) % 8 = if a % 2 = 0 then (2 * a) % 8 else 1 := by
  have h : (a * a) % 8 = ((a % 8) * (a % 8)) % 8 := Int.mul_emod a a 8
  have h2 : (2 * a) % 8 = (2 * (a % 8)) % 8 := by omega
  have h3 : a % 2 = (a % 8) % 2 := by omega
  rw [h, h2, h3]
  have b1 := Int.emod_nonneg a (show (8 : Int) ≠ 0 by decide)
  have b2 := Int.emod_lt_of_pos a (show (0 : Int) < 8 by decide)
  generalize a % 8 = t at b1 b2
  have : t = 0 ∨ t = 1 ∨ t = 2 ∨ t = 3 ∨ t = 4 ∨ t = 5 ∨ t = 6 ∨ t = 7 := by omega
  rcases this with rfl | rfl | rfl | rfl | rfl | rfl | rfl | rfl <;> decide
theorem Lat.ev8 {a b c d e f g i : Int} (h : Lat [a, b, c, d, e, f, g, i]) : (b - a) % 2 = 0 ∧ (c - a) % 2 = 0 ∧ (d - a) % 2 = 0 ∧ (e - a) % 2 = 0 ∧ (f - a) % 2 = 0 ∧ (g - a) % 2 = 0 ∧ (i - a) % 2 = 0 ∧ (a + (b + (c + (d + (e + (f + (g + i))))))) % 4 = 0 := by
  obtain ⟨_, h1, h2⟩ := h
  have q : (a - a) % 2 = 0 ∧ (b - a) % 2 = 0 ∧ (c - a) % 2 = 0 ∧ (d - a) % 2 = 0 ∧ (e - a) % 2 = 0 ∧ (f - a) % 2 = 0 ∧ (g - a) % 2 = 0 ∧ (i - a) % 2 = 0 := by simpa using h1
  have h2' : (a + (b + (c + (d + (e + (f + (g + (i + 0)))))))) % 4 = 0 := h2
  obtain ⟨_, q2, q3, q4, q5, q6, q7, q8⟩ := q
  exact ⟨q2, q3, q4, q5, q6, q7, q8, by omega⟩
theorem Lat.of8 {a b c d e f g i : Int} (h : (b - a) % 2 = 0 ∧ (c - a) % 2 = 0 ∧ (d - a) % 2 = 0 ∧ (e - a) % 2 = 0 ∧ (f - a) % 2 = 0 ∧ (g - a) % 2 = 0 ∧ (i - a) % 2 = 0 ∧ (a + (b + (c + (d + (e + (f + (g + i))))))) % 4 = 0) : Lat [a, b, c, d, e, f, g, i] := by
  obtain ⟨q2, q3, q4, q5, q6, q7, q8, q9⟩ := h
  refine ⟨rfl, ?_, ?_⟩
  · have : (a - a) % 2 = 0 ∧ (b - a) % 2 = 0 ∧ (c - a) % 2 = 0 ∧ (d - a) % 2 = 0 ∧ (e - a) % 2 = 0 ∧ (f - a) % 2 = 0 ∧ (g - a) % 2 = 0 ∧ (i - a) % 2 = 0 := ⟨by omega, q2, q3, q4, q5, q6, q7, q8⟩
    simpa using this
  · show (a + (b + (c + (d + (e + (f + (g + (i + 0)))))))) % 4 = 0
    omega
theorem Lat.sq {x : List Int} (h : Lat x) : mulS x x % 8 = 0 := by
  match x, h.1, h with
  | [a, b, c, d, e, f, g, i], _, h =>
    obtain ⟨q2, q3, q4, q5, q6, q7, q8, q9⟩ := h.ev8
    show (a * a + (b * b + (c * c + (d * d + (e * e + (f * f + (g * g + (i * i + 0)))))))) % 8 = 0
    have m1 := sq_mod a
    have m2 := sq_mod b
    have m3 := sq_mod c
    have m4 := sq_mod d
    have m5 := sq_mod e
    have m6 := sq_mod f
    have m7 := sq_mod g
    have m8 := sq_mod i
    by_cases ho : a % 2 = 0
    · rw [if_pos (by omega)] at m1 m2 m3 m4 m5 m6 m7 m8
      omega
    · rw [if_neg (by omega)] at m1 m2 m3 m4 m5 m6 m7 m8
      omega
theorem Lat.add {x y : List Int} (hx : Lat x) (hy : Lat y) : Lat (add x y) := by
  match x, hx.1, hx, y, hy.1, hy with
  | [a, b, c, d, e, f, g, i], _, hx, [a', b', c', d', e', f', g', i'], _, hy =>
    obtain ⟨q2, q3, q4, q5, q6, q7, q8, q9⟩ := hx.ev8
    obtain ⟨r2, r3, r4, r5, r6, r7, r8, r9⟩ := hy.ev8
    show Lat [a + a', b + b', c + c', d + d', e + e', f + f', g + g', i + i']
    exact Lat.of8 ⟨by omega, by omega, by omega, by omega, by omega, by omega, by omega, by omega⟩
theorem mul_ev {m a : Int} (h : a % 2 = 0) : (m * a) % 2 = 0 := by rw [Int.mul_emod, h]; simp
theorem Lat.smul {x : List Int} (m : Int) (hx : Lat x) : Lat (smul m x) := by
  match x, hx.1, hx with
  | [a, b, c, d, e, f, g, i], _, hx =>
    obtain ⟨q2, q3, q4, q5, q6, q7, q8, q9⟩ := hx.ev8
    have s : ∀ u : Int, (u - a) % 2 = 0 → (m * u - m * a) % 2 = 0 := fun u hu => by rw [← Int.mul_sub]; exact mul_ev hu
    refine Lat.of8 ⟨s b q2, s c q3, s d q4, s e q5, s f q6, s g q7, s i q8, ?_⟩
    have : m * a + (m * b + (m * c + (m * d + (m * e + (m * f + (m * g + m * i)))))) = m * (a + (b + (c + (d + (e + (f + (g + i))))))) := by simp only [Int.mul_add]
    rw [this, Int.mul_emod, q9]; simp
theorem less_eq {x g : List Int} {m : Int} : ∀ {x g : List Int}, less x g m = Pf.add x (Pf.smul (-m) g)
  | [], [] => rfl
  | [], _ :: _ => rfl
  | _ :: _, [] => rfl
  | a :: x, b :: g => by
    show (a - m * b) :: less x g m = (a + (-m) * b) :: Pf.add x (Pf.smul (-m) g)
    rw [less_eq (x := x) (g := g), Int.neg_mul, Int.sub_eq_add_neg]
    all_goals assumption
theorem Lat.less {x y : List Int} (m : Int) (hx : Lat x) (hy : Lat y) : Lat (less x y m) := by
  rw [less_eq (x := x) (g := y)]
  exact hx.add (hy.smul _)
theorem Lat.mul {x y : List Int} (hx : Lat x) (hy : Lat y) : mulS x y % 4 = 0 := by
  have h := (hx.add hy).sq
  have hl : x.length = y.length := by rw [hx.1, hy.1]
  rw [mulS_add hl, mulS_comm x, mulS_comm y (Pf.add x y), mulS_add hl, mulS_add hl, mulS_comm y x] at h
  have h1 := hx.sq
  have h2 := hy.sq
  omega
theorem Lat.dot {x y : List Int} (hx : Lat x) (hy : Lat y) : mulS x y = 4 * dot x y := by
  have h := hx.mul hy
  unfold Pf.dot
  rw [Int.fdiv_eq_ediv_of_nonneg _ (by decide)]
  omega
theorem RT_lat {x : List Int} (h : x ∈ RT) : Lat x := by
  have hr := (RT_iff.mp h).2
  unfold rootB at hr
  rw [Bool.and_eq_true, Bool.and_eq_true, List.all_eq_true] at hr
  refine ⟨RT_l8 h, fun a ha => by simpa using hr.1.1 a ha, by simpa using hr.1.2⟩
theorem RT_mk {x : List Int} (h : Lat x) (h2 : mulS x x = 8) : x ∈ RT := by
  refine RT_of h.1 ?_
  unfold rootB
  rw [Bool.and_eq_true, Bool.and_eq_true, List.all_eq_true]
  exact ⟨⟨fun a ha => by simpa using h.2.1 a ha, by simpa using h.2.2⟩, by simpa using h2⟩
end Pf

set_option Elab.async false
set_option linter.all false
set_option maxRecDepth 100000
set_option maxHeartbeats 4000000
namespace Pf
open PySem PySem.Spec PyProof.Rows L2

/-! ## mirrors -/
theorem mir_lat {g x : List Int} (hg : g ∈ RT) (hx : Lat x) : Lat (mir g x) := hx.less _ (RT_lat hg)
theorem mulS_mir1 {g x y : List Int} (hg : g ∈ RT) (hx : Lat x) : mulS (mir g x) y = mulS x y - dot g x * mulS g y := mulS_less _ (by rw [hx.1, RT_l8 hg])
theorem mulS_mir {g x y : List Int} (hg : g ∈ RT) (hx : Lat x) (hy : Lat y) : mulS (mir g x) (mir g y) = mulS x y := by
  rw [mulS_mir1 hg hx, mulS_comm x, mulS_comm g (mir g y), mulS_mir1 hg hy, mulS_mir1 hg hy, RT_sq hg]
  have h1 := (RT_lat hg).dot hx
  have h2 := (RT_lat hg).dot hy
  rw [mulS_comm y x, mulS_comm y g, h1, h2]
  generalize dot g x = c
  generalize dot g y = d
  rw [show c * (4 * d - d * 8) = -(4 * (c * d)) by rw [Int.mul_sub, ← Int.mul_assoc, ← Int.mul_assoc, Int.mul_comm c 4, Int.mul_assoc 4 c d, Int.mul_comm (c * d) 8]; omega]
  rw [show d * (4 * c) = 4 * (c * d) by rw [← Int.mul_assoc, Int.mul_comm d 4, Int.mul_assoc, Int.mul_comm d c]]
  omega
theorem dot_of {x y : List Int} {k : Int} (hx : Lat x) (hy : Lat y) (h : mulS x y = 4 * k) : dot x y = k := by
  have := hx.dot hy
  omega
theorem dot_mir {g x y : List Int} (hg : g ∈ RT) (hx : Lat x) (hy : Lat y) : dot (mir g x) (mir g y) = dot x y := by
  unfold dot; rw [mulS_mir hg hx hy]
theorem mir_RT {g x : List Int} (hg : g ∈ RT) (hx : x ∈ RT) : mir g x ∈ RT :=
  RT_mk (mir_lat hg (RT_lat hx)) (by rw [mulS_mir hg (RT_lat hx) (RT_lat hx), RT_sq hx])
theorem less_less : ∀ {x g : List Int} {m : Int}, x.length = g.length → less (less x g m) g (-m) = x
  | [], [], _, _ => rfl
  | a :: x, b :: g, m, h => by
    show ((a - m * b) - (-m) * b) :: less (less x g m) g (-m) = a :: x
    rw [less_less (Nat.succ.inj h : x.length = g.length), Int.neg_mul]
    congr 1
    omega
theorem mir_mir {g x : List Int} (hg : g ∈ RT) (hx : Lat x) : mir g (mir g x) = x := by
  have hd : dot g (mir g x) = -dot g x := by
    refine dot_of (RT_lat hg) (mir_lat hg hx) ?_
    rw [mulS_comm, mulS_mir1 hg hx, mulS_comm x g, RT_sq hg, (RT_lat hg).dot hx]
    omega
  unfold mir at hd ⊢
  rw [hd]
  exact less_less (by rw [hx.1, RT_l8 hg])
theorem map_nodup {α β : Type} {f : α → β} {l : List α} (h : l.Nodup) (hf : ∀ a ∈ l, ∀ b ∈ l, f a = f b → a = b) : (l.map f).Nodup := by
  refine List.pairwise_map.mpr (List.Pairwise.imp_of_mem (fun {a b} ha hb hne e => hne (hf a ha b hb e)) h)
theorem mir_perm {g : List Int} (hg : g ∈ RT) : (RT.map (mir g)).Perm RT := by
  refine (List.perm_ext_iff_of_nodup (map_nodup RT_nodup fun a ha b hb e => ?_) RT_nodup).mpr fun x => ⟨fun h => ?_, fun h => ?_⟩
  · rw [← mir_mir hg (RT_lat ha), e, mir_mir hg (RT_lat hb)]
  · obtain ⟨y, hy, rfl⟩ := List.mem_map.mp h
    exact mir_RT hg hy
  · exact List.mem_map.mpr ⟨mir g x, mir_RT hg h, mir_mir hg (RT_lat h)⟩
/-- counts don't see mirrors -/
theorem count_mir {g : List Int} (hg : g ∈ RT) (P Q : List Int → Bool) (h : ∀ x ∈ RT, P (mir g x) = Q x) : RT.countP P = RT.countP Q := by
  rw [← (mir_perm hg).countP_eq P, List.countP_map]
  refine List.countP_congr fun x hx => ?_
  show P (mir g x) = true ↔ Q x = true
  rw [h x hx]
/-! ## from one to the others -/
theorem diff_root {r k : List Int} (hr : r ∈ RT) (hk : k ∈ RT) (h : mulS r k = 4) : less r k 1 ∈ RT ∧ mir (less r k 1) r = k := by
  have hl : r.length = k.length := by rw [RT_l8 hr, RT_l8 hk]
  have hL := (RT_lat hr).less 1 (RT_lat hk)
  have h1 : mulS (less r k 1) r = 4 := by rw [mulS_less 1 hl, RT_sq hr, mulS_comm k r, h]; rfl
  have hg : less r k 1 ∈ RT := RT_mk hL (by rw [mulS_less 1 hl, mulS_less' 1 hl, mulS_less' 1 hl, RT_sq hr, RT_sq hk, mulS_comm k r, h]; rfl)
  refine ⟨hg, ?_⟩
  unfold mir
  rw [dot_of hL (RT_lat hr) (k := 1) (by rw [h1]; rfl)]
  clear hL h1 hg h
  have : ∀ {r k : List Int}, r.length = k.length → less r (less r k 1) 1 = k := by
    intro r
    induction r with
    | nil => intro k h; cases k <;> first | rfl | cases h
    | cons a r ih =>
      intro k h
      cases k with
      | nil => cases h
      | cons b k =>
        show (a - 1 * (a - 1 * b)) :: less r (less r k 1) 1 = b :: k
        rw [ih (Nat.succ.inj h)]
        congr 1
        omega
  exact this hl
/-- what comes from s0 by steps of product 1 within F -/
def lev (F : List (List Int)) (s0 : List Int) : Nat → List (List Int)
  | 0 => [s0]
  | n + 1 => F.filter fun s => (lev F s0 n).any fun k => mulS s k == 4
theorem lev_ind {F : List (List Int)} {s0 : List Int} {Q : List Int → Prop} (hs : s0 ∈ F) (h0 : Q s0) (hstep : ∀ s ∈ F, ∀ k ∈ F, mulS s k = 4 → Q k → Q s) : ∀ n, ∀ s ∈ lev F s0 n, s ∈ F ∧ Q s
  | 0, s, h => by rw [List.mem_singleton.mp h]; exact ⟨hs, h0⟩
  | n + 1, s, h => by
    obtain ⟨h1, h2⟩ := List.mem_filter.mp h
    obtain ⟨k, hk, e⟩ := List.any_eq_true.mp h2
    obtain ⟨k1, k2⟩ := lev_ind hs h0 hstep n k hk
    exact ⟨h1, hstep s h1 k k1 (by simpa using e) k2⟩
def r0 : List Int := [2, 2, 0, 0, 0, 0, 0, 0]
def s0 : List Int := [-2, 0, 2, 0, 0, 0, 0, 0]
def F0 : List (List Int) := RT.filter fun s => mulS r0 s == -4
theorem r0_in : r0 ∈ RT := by decide +kernel
theorem s0_in : s0 ∈ F0 := by decide +kernel
theorem RT_lev : RT.all (fun r => (lev RT r0 2).contains r || (lev RT r0 1).contains r || (lev RT r0 3).contains r || r == r0) = true := by decide +kernel
theorem F0_lev : F0.all (fun r => (lev F0 s0 2).contains r || (lev F0 s0 1).contains r || (lev F0 s0 3).contains r || r == s0) = true := by decide +kernel
theorem lev_all {F : List (List Int)} {s0 : List Int} (hc : F.all (fun r => (lev F s0 2).contains r || (lev F s0 1).contains r || (lev F s0 3).contains r || r == s0) = true) {Q : List Int → Prop} (hs : s0 ∈ F) (h0 : Q s0) (hstep : ∀ s ∈ F, ∀ k ∈ F, mulS s k = 4 → Q k → Q s) : ∀ r ∈ F, Q r := by
  intro r hr
  have h := List.all_eq_true.mp hc r hr
  simp only [Bool.or_eq_true, List.contains_iff_mem, beq_iff_eq] at h
  rcases h with ((h | h) | h) | h
  · exact (lev_ind hs h0 hstep 2 r h).2
  · exact (lev_ind hs h0 hstep 1 r h).2
  · exact (lev_ind hs h0 hstep 3 r h).2
  · rw [h]; exact h0
/-- what mirrors keep, from one root to all -/
theorem root_ind {Q : List Int → Prop} (h0 : Q r0) (hQ : ∀ g ∈ RT, ∀ r ∈ RT, Q (mir g r) → Q r) : ∀ r ∈ RT, Q r :=
  lev_all RT_lev r0_in h0 fun s hs k hk h q => by
    obtain ⟨g1, g2⟩ := diff_root hs hk h
    exact hQ _ g1 s hs (by rw [g2]; exact q)
theorem F0_mem {s : List Int} : s ∈ F0 ↔ s ∈ RT ∧ mulS r0 s = -4 := by
  unfold F0
  rw [List.mem_filter]
  simp
/-- what mirrors keep, from one pair of product -1 to all -/
theorem pair_ind {Q : List Int → List Int → Prop} (h0 : Q r0 s0) (hQ : ∀ g ∈ RT, ∀ r ∈ RT, ∀ s ∈ RT, Q (mir g r) (mir g s) → Q r s) : ∀ r ∈ RT, ∀ s ∈ RT, mulS r s = -4 → Q r s := by
  have base : ∀ s ∈ F0, Q r0 s := lev_all F0_lev s0_in h0 fun s hs k hk h q => by
    obtain ⟨s1, s2⟩ := F0_mem.mp hs
    obtain ⟨k1, k2⟩ := F0_mem.mp hk
    obtain ⟨g1, g2⟩ := diff_root s1 k1 h
    refine hQ _ g1 r0 r0_in s s1 ?_
    have e : mir (less s k 1) r0 = r0 := by
      have hd : dot (less s k 1) r0 = 0 := dot_of (RT_lat g1) (RT_lat r0_in) (by rw [mulS_less 1 (by rw [RT_l8 s1, RT_l8 k1]), mulS_comm s, mulS_comm k, s2, k2]; rfl)
      unfold mir
      rw [hd]
      have : ∀ {x g : List Int}, x.length = g.length → less x g 0 = x := by
        intro x
        induction x with
        | nil => intro g _; cases g <;> rfl
        | cons a x ih =>
          intro g h
          cases g with
          | nil => cases h
          | cons b g =>
            show (a - 0 * b) :: less x g 0 = _
            rw [ih (Nat.succ.inj h), Int.zero_mul, Int.sub_zero]
      exact this (by rw [RT_l8 r0_in, RT_l8 g1])
    rw [e, g2]
    exact q
  refine root_ind (Q := fun r => ∀ s ∈ RT, mulS r s = -4 → Q r s) (fun s hs h => base s (F0_mem.mpr ⟨hs, h⟩)) fun g hg r hr q s hs h => ?_
  exact hQ g hg r hr s hs (q (mir g s) (mir_RT hg hs) (by rw [mulS_mir hg (RT_lat hr) (RT_lat hs), h]))
/-- 56 have the product -1 with a root -/
theorem count56 : ∀ r ∈ RT, RT.countP (fun s => mulS s r == -4) = 56 :=
  root_ind (by decide +kernel) fun g hg r hr q => by
    rw [← q]
    exact (count_mir hg _ _ fun x hx => by rw [mulS_mir hg (RT_lat hx) (RT_lat hr)]).symm
def S0 : List (List Int) := RT.filter fun x => mulS x r0 == 0 && mulS x s0 == 0
theorem S0_72 : S0.length = 72 := by decide +kernel
theorem S0_20 : S0.all (fun x => S0.countP (fun y => mulS y x == -4) == 20) = true := by decide +kernel
/-- 72 have the product 0 with both of a pair, each of these -1 with 20 others -/
theorem count72 : ∀ r ∈ RT, ∀ s ∈ RT, mulS r s = -4 → RT.countP (fun x => mulS x r == 0 && mulS x s == 0) = 72 ∧ ∀ x ∈ RT, mulS x r = 0 → mulS x s = 0 → RT.countP (fun y => mulS y x == -4 && (mulS y r == 0 && mulS y s == 0)) = 20 := by
  refine pair_ind ⟨?_, fun x hx h1 h2 => ?_⟩ fun g hg r hr s hs q => ⟨?_, fun x hx h1 h2 => ?_⟩
  · rw [List.countP_eq_length_filter]; exact S0_72
  · have hx0 : x ∈ S0 := List.mem_filter.mpr ⟨hx, by simp [h1, h2]⟩
    have := List.all_eq_true.mp S0_20 x hx0
    have e := beq_iff_eq.mp this
    unfold S0 at e
    rw [List.countP_filter] at e
    exact e
  · rw [← q.1]
    exact (count_mir hg _ _ fun x hx => by rw [mulS_mir hg (RT_lat hx) (RT_lat hr), mulS_mir hg (RT_lat hx) (RT_lat hs)]).symm
  · have := q.2 (mir g x) (mir_RT hg hx) (by rw [mulS_mir hg (RT_lat hx) (RT_lat hr), h1]) (by rw [mulS_mir hg (RT_lat hx) (RT_lat hs), h2])
    rw [← this]
    exact (count_mir hg _ _ fun y hy => by rw [mulS_mir hg (RT_lat hy) (RT_lat hr), mulS_mir hg (RT_lat hy) (RT_lat hs), mulS_mir hg (RT_lat hy) (RT_lat hx)]).symm
end Pf

set_option Elab.async false
set_option linter.all false
set_option maxRecDepth 100000
set_option maxHeartbeats 4000000
namespace Pf
open PySem PySem.Spec PyProof.Rows L2

/-! ## sorted, each once -/
def ostep {α : Type} [DecidableEq α] (acc : List α) (x : α) : List α := if acc.getLast? = some x then acc else acc ++ [x]
def once {α : Type} [DecidableEq α] (lt : α → α → Bool) (l : List α) : List α := (l.mergeSort (leL lt)).foldl ostep []
section
variable {α : Type} [DecidableEq α] {lt : α → α → Bool}
theorem ostep_len (acc : List α) (x : α) : (ostep acc x).length ≤ acc.length + 1 := by
  unfold ostep
  split
  · omega
  · simp
theorem ofold_len : ∀ (l acc : List α), (l.foldl ostep acc).length ≤ acc.length + l.length
  | [], acc => by simp
  | x :: l, acc => by
    rw [List.foldl_cons]
    have h1 := ofold_len l (ostep acc x)
    have h2 := ostep_len acc x
    rw [List.length_cons]
    omega
theorem ostep_mem {acc : List α} {x y : α} : y ∈ ostep acc x ↔ y ∈ acc ∨ y = x := by
  unfold ostep
  split
  · rename_i h
    have hx : x ∈ acc := List.mem_of_getLast? h
    constructor
    · exact .inl
    · rintro (h | rfl)
      · exact h
      · exact hx
  · simp
theorem ofold_mem : ∀ (l acc : List α) (y : α), y ∈ l.foldl ostep acc ↔ y ∈ acc ∨ y ∈ l
  | [], acc, y => by simp
  | x :: l, acc, y => by
    rw [List.foldl_cons, ofold_mem l _ y, ostep_mem, List.mem_cons, or_assoc]
theorem ofold_pw (T : Tot lt) : ∀ (l acc : List α), acc.Pairwise (fun a b => lt a b = true) → (∀ a ∈ acc, ∀ b ∈ l, leL lt a b = true) → l.Pairwise (fun a b => leL lt a b = true) → (∀ a ∈ acc, acc.getLast? = some a ∨ ∀ b ∈ l, lt a b = true) → (l.foldl ostep acc).Pairwise fun a b => lt a b = true
  | [], acc, h, _, _, _ => h
  | x :: l, acc, h, h1, h2, h3 => by
    rw [List.foldl_cons]
    obtain ⟨p1, p2⟩ := List.pairwise_cons.mp h2
    unfold ostep
    by_cases e : acc.getLast? = some x
    · rw [if_pos e]
      refine ofold_pw T l acc h (fun a ha b hb => h1 a ha b (List.mem_cons_of_mem _ hb)) p2 fun a ha => ?_
      rcases h3 a ha with q | q
      · exact .inl q
      · exact .inr fun b hb => q b (List.mem_cons_of_mem _ hb)
    · rw [if_neg e]
      have lx : ∀ a ∈ acc, lt a x = true := fun a ha => by
        rcases h3 a ha with q | q
        · have hle := h1 a ha x List.mem_cons_self
          cases hh : lt a x with
          | true => rfl
          | false =>
            unfold leL at hle
            have := T.tri a x hh (by simpa using hle)
            rw [this] at q
            exact absurd q e
        · exact q x List.mem_cons_self
      refine ofold_pw T l (acc ++ [x]) (List.pairwise_append.mpr ⟨h, List.pairwise_singleton _ _, fun a ha b hb => by rw [List.mem_singleton.mp hb]; exact lx a ha⟩) (fun a ha b hb => ?_) p2 fun a ha => ?_
      · rcases List.mem_append.mp ha with ha | ha
        · exact h1 a ha b (List.mem_cons_of_mem _ hb)
        · rw [List.mem_singleton.mp ha]; exact p1 b hb
      · rcases List.mem_append.mp ha with ha | ha
        · refine .inr fun b hb => ?_
          have hxb := p1 b hb
          cases hh : lt a b with
          | true => rfl
          | false =>
            unfold leL at hxb
            rw [Bool.not_eq_true'] at hxb
            cases hh2 : lt b a with
            | true => have := T.tr b a x hh2 (lx a ha); rw [hxb] at this; cases this
            | false =>
              have := T.tri a b hh hh2
              subst this
              have := lx a ha
              rw [hxb] at this; cases this
        · rw [List.mem_singleton.mp ha]
          exact .inl (by simp)
theorem once_pw (T : Tot lt) (l : List α) : (once lt l).Pairwise fun a b => lt a b = true :=
  ofold_pw T _ [] .nil (fun a ha => by cases ha) (sort_pw T l) fun a ha => by cases ha
theorem once_mem (l : List α) (y : α) : y ∈ once lt l ↔ y ∈ l := by
  unfold once
  rw [ofold_mem]
  simp [(List.mergeSort_perm l _).mem_iff]
theorem once_len (l : List α) : (once lt l).length ≤ l.length := by
  have := ofold_len (l.mergeSort (leL lt)) []
  unfold once
  rw [(List.mergeSort_perm l _).length_eq] at this
  simpa using this
/-- strictly ascending lists of the same items are one -/
theorem asc_uniq (T : Tot lt) {l m : List α} (h1 : l.Pairwise fun a b => lt a b = true) (h2 : m.Pairwise fun a b => lt a b = true) (h : ∀ x, x ∈ l ↔ x ∈ m) : l = m :=
  sorted_uniq T (lt_le T h1) (lt_le T h2) ((List.perm_ext_iff_of_nodup (lt_nodup T h1) (lt_nodup T h2)).mpr h)
theorem once_asc (T : Tot lt) {l : List α} (h : l.Pairwise fun a b => lt a b = true) : once lt l = l :=
  asc_uniq T (once_pw T l) h fun x => once_mem l x
theorem once_congr (T : Tot lt) {l m : List α} (h : ∀ x, x ∈ l ↔ x ∈ m) : once lt l = once lt m :=
  asc_uniq T (once_pw T l) (once_pw T m) fun x => by rw [once_mem, once_mem, h]
/-- a function that has the same value at two items each -/
theorem once_half {β : Type} [DecidableEq β] {ltb : β → β → Bool} (T : Tot lt) (Tb : Tot ltb) {l : List α} {τ : α → α} {h : α → β} (hn : l.Nodup) (h1 : ∀ s ∈ l, τ s ∈ l) (h2 : ∀ s ∈ l, τ (τ s) = s) (h3 : ∀ s ∈ l, τ s ≠ s)
    (h4 : ∀ s ∈ l, ∀ t ∈ l, h s = h t ↔ t = s ∨ t = τ s) : 2 * (once ltb (l.map h)).length = l.length := by
  have hτ : (l.map τ).Perm l := by
    refine (List.perm_ext_iff_of_nodup (map_nodup hn fun a ha b hb e => by rw [← h2 a ha, e, h2 b hb]) hn).mpr fun x => ⟨fun hx => ?_, fun hx => ?_⟩
    · obtain ⟨y, hy, rfl⟩ := List.mem_map.mp hx
      exact h1 y hy
    · exact List.mem_map.mpr ⟨τ x, h1 x hx, h2 x hx⟩
  have e1 : (once ltb (l.map h)).length = (l.filter fun s => lt s (τ s)).length := by
    have nd : ((l.filter fun s => lt s (τ s)).map h).Nodup := by
      refine map_nodup (hn.sublist List.filter_sublist) fun a ha b hb e => ?_
      obtain ⟨ha1, ha2⟩ := List.mem_filter.mp ha
      obtain ⟨hb1, hb2⟩ := List.mem_filter.mp hb
      rcases (h4 a ha1 b hb1).mp e with q | q
      · exact q.symm
      · rw [q, h2 a ha1] at hb2
        have := T.asym ha2
        rw [hb2] at this
        cases this
    have pm : (once ltb (l.map h)).Perm ((l.filter fun s => lt s (τ s)).map h) := by
      refine (List.perm_ext_iff_of_nodup (lt_nodup Tb (once_pw Tb _)) nd).mpr fun y => ?_
      rw [once_mem]
      constructor
      · intro hy
        obtain ⟨s, hs, rfl⟩ := List.mem_map.mp hy
        by_cases q : lt s (τ s) = true
        · exact List.mem_map.mpr ⟨s, List.mem_filter.mpr ⟨hs, q⟩, rfl⟩
        · have q2 : lt (τ s) s = true := by
            cases hh : lt (τ s) s with
            | true => rfl
            | false => exact absurd (T.tri _ _ hh (by simpa using q)) (h3 s hs)
          exact List.mem_map.mpr ⟨τ s, List.mem_filter.mpr ⟨h1 s hs, by rw [h2 s hs]; exact q2⟩, ((h4 s hs (τ s) (h1 s hs)).mpr (.inr rfl)).symm⟩
      · intro hy
        obtain ⟨s, hs, rfl⟩ := List.mem_map.mp hy
        exact List.mem_map.mpr ⟨s, (List.mem_filter.mp hs).1, rfl⟩
    rw [pm.length_eq, List.length_map]
  have e2 : l.countP (fun s => lt s (τ s)) = l.countP (fun s => lt (τ s) s) := by
    rw [← hτ.countP_eq (fun s => lt s (τ s)), List.countP_map]
    refine List.countP_congr fun x hx => ?_
    show lt (τ x) (τ (τ x)) = true ↔ _
    rw [h2 x hx]
  have e3 : l.countP (fun s => lt (τ s) s) = l.countP (fun s => !lt s (τ s)) := by
    refine List.countP_congr fun x hx => ?_
    cases q : lt x (τ x) with
    | true => rw [T.asym q]; rfl
    | false =>
      cases hh : lt (τ x) x with
      | true => exact ⟨fun _ => rfl, fun _ => rfl⟩
      | false => exact absurd (T.tri _ _ hh q) (h3 x hx)
  rw [e1, ← List.countP_eq_length_filter]
  have e4 := List.length_eq_countP_add_countP (fun s => lt s (τ s)) (l := l)
  have e5 : l.countP (fun s => !lt s (τ s)) = l.countP (fun a => decide ¬lt a (τ a) = true) := List.countP_congr fun x _ => by simp
  omega
end
/-- counting pairs from both sides -/
theorem count_both {α β : Type} (R : α → β → Bool) : ∀ (l : List α) (m : List β), (l.map fun a => m.countP (R a)).sum = (m.map fun b => l.countP fun a => R a b).sum
  | [], m => by
    have : (m.map fun b => ([] : List α).countP fun a => R a b) = m.map fun _ => 0 := List.map_congr_left fun _ _ => rfl
    rw [this]
    induction m with
    | nil => rfl
    | cons b m ih => simpa using ih rfl
  | a :: l, m => by
    rw [List.map_cons, List.sum_cons, count_both R l m]
    have : ∀ m : List β, m.countP (R a) + (m.map fun b => l.countP fun a => R a b).sum = (m.map fun b => (a :: l).countP fun a => R a b).sum := by
      intro m
      induction m with
      | nil => rfl
      | cons b m ih =>
        rw [List.map_cons, List.map_cons, List.sum_cons, List.sum_cons, ← ih, List.countP_cons, List.countP_cons]
        omega
    exact this m
theorem sum_const {α : Type} {f : α → Nat} {n : Nat} : ∀ {l : List α}, (∀ a ∈ l, f a = n) → (l.map f).sum = l.length * n
  | [], _ => by simp
  | a :: l, h => by
    rw [List.map_cons, List.sum_cons, h a List.mem_cons_self, sum_const fun b hb => h b (List.mem_cons_of_mem _ hb), List.length_cons, Nat.succ_mul]
    omega
end Pf

set_option Elab.async false
set_option linter.all false
set_option maxRecDepth 100000
set_option maxHeartbeats 4000000
namespace Pf
open PySem PySem.Spec PyProof.Rows L2

/-! ## roots of product 0 -/
theorem less_zero : ∀ {x g : List Int}, x.length = g.length → less x g 0 = x
  | [], [], _ => rfl
  | a :: x, b :: g, h => by
    show (a - 0 * b) :: less x g 0 = a :: x
    rw [less_zero (Nat.succ.inj h : x.length = g.length), Int.zero_mul, Int.sub_zero]
theorem mir_fix {g x : List Int} (hg : g ∈ RT) (hx : Lat x) (h : mulS g x = 0) : mir g x = x := by
  unfold mir
  rw [dot_of (RT_lat hg) hx (k := 0) (by rw [h]; rfl)]
  exact less_zero (by rw [hx.1, RT_l8 hg])
/-- the roots of product 0 with those of A -/
def osq (A : List (List Int)) : List (List Int) := RT.filter fun x => A.all fun a => mulS a x == 0
theorem osq_mem {A : List (List Int)} {x : List Int} : x ∈ osq A ↔ x ∈ RT ∧ ∀ a ∈ A, mulS a x = 0 := by
  unfold osq
  rw [List.mem_filter, List.all_eq_true]
  simp
theorem osq_ind {A : List (List Int)} {s0 : List Int} (hA : ∀ a ∈ A, Lat a) (hc : (osq A).all (fun r => (lev (osq A) s0 2).contains r || (lev (osq A) s0 1).contains r || (lev (osq A) s0 3).contains r || r == s0) = true) (hs : s0 ∈ osq A)
    {Q : List Int → Prop} (h0 : Q s0) (hQ : ∀ g ∈ RT, (∀ a ∈ A, mir g a = a) → ∀ x ∈ RT, Q (mir g x) → Q x) : ∀ x ∈ osq A, Q x :=
  lev_all hc hs h0 fun s hs k hk h q => by
    obtain ⟨s1, s2⟩ := osq_mem.mp hs
    obtain ⟨k1, k2⟩ := osq_mem.mp hk
    obtain ⟨g1, g2⟩ := diff_root s1 k1 h
    refine hQ _ g1 (fun a ha => mir_fix g1 (hA a ha) ?_) s s1 (by rw [g2]; exact q)
    rw [mulS_less 1 (by rw [RT_l8 s1, RT_l8 k1]), mulS_comm s, mulS_comm k, s2 a ha, k2 a ha]
    rfl
def b0 : List Int := [2, -2, 0, 0, 0, 0, 0, 0]
def c0 : List Int := [0, 0, 2, 2, 0, 0, 0, 0]
theorem b0_in : b0 ∈ osq [r0] := by decide +kernel
theorem c0_in : c0 ∈ osq [r0, b0] := by decide +kernel
theorem osq1_lev : (osq [r0]).all (fun r => (lev (osq [r0]) b0 2).contains r || (lev (osq [r0]) b0 1).contains r || (lev (osq [r0]) b0 3).contains r || r == b0) = true := by decide +kernel
theorem osq2_lev : (osq [r0, b0]).all (fun r => (lev (osq [r0, b0]) c0 2).contains r || (lev (osq [r0, b0]) c0 1).contains r || (lev (osq [r0, b0]) c0 3).contains r || r == c0) = true := by decide +kernel
theorem mulS_mirR {g x y : List Int} (hg : g ∈ RT) (hx : x ∈ RT) (hy : y ∈ RT) : mulS (mir g x) (mir g y) = mulS x y := mulS_mir hg (RT_lat hx) (RT_lat hy)
theorem opair_ind {Q : List Int → List Int → Prop} (h0 : Q r0 b0) (hQ : ∀ g ∈ RT, ∀ a ∈ RT, ∀ b ∈ RT, Q (mir g a) (mir g b) → Q a b) : ∀ a ∈ RT, ∀ b ∈ RT, mulS a b = 0 → Q a b := by
  have s2 : ∀ b ∈ osq [r0], Q r0 b := osq_ind (by simpa using RT_lat r0_in) osq1_lev b0_in h0 fun g hg hf x hx q => hQ g hg r0 r0_in x hx (by rw [hf r0 (by simp)]; exact q)
  refine root_ind (Q := fun a => ∀ b ∈ RT, mulS a b = 0 → Q a b) (fun b hb h => s2 b (osq_mem.mpr ⟨hb, by simpa using h⟩)) fun g hg a ha q b hb h => ?_
  exact hQ g hg a ha b hb (q _ (mir_RT hg hb) (by rw [mulS_mirR hg ha hb, h]))
/-- what mirrors keep, from one triple of product 0 to all -/
theorem otri_ind {Q : List Int → List Int → List Int → Prop} (h0 : Q r0 b0 c0) (hQ : ∀ g ∈ RT, ∀ a ∈ RT, ∀ b ∈ RT, ∀ c ∈ RT, Q (mir g a) (mir g b) (mir g c) → Q a b c) :
    ∀ a ∈ RT, ∀ b ∈ RT, ∀ c ∈ RT, mulS a b = 0 → mulS a c = 0 → mulS b c = 0 → Q a b c := by
  have hb0 := (osq_mem.mp b0_in).1
  have s3 : ∀ c ∈ osq [r0, b0], Q r0 b0 c := osq_ind (by
    intro a ha
    rcases List.mem_cons.mp ha with rfl | ha
    · exact RT_lat r0_in
    · rw [List.mem_singleton.mp ha]; exact RT_lat hb0) osq2_lev c0_in h0 fun g hg hf x hx q => hQ g hg r0 r0_in b0 hb0 x hx (by rw [hf r0 (by simp), hf b0 (by simp)]; exact q)
  intro a ha b hb c hc h1 h2 h3
  refine opair_ind (Q := fun a b => ∀ c ∈ RT, mulS a c = 0 → mulS b c = 0 → Q a b c) (fun c hc h2 h3 => s3 c (osq_mem.mpr ⟨hc, ?_⟩)) (fun g hg a ha b hb q c hc h2 h3 => ?_) a ha b hb h1 c hc h2 h3
  · intro a ha
    rcases List.mem_cons.mp ha with rfl | ha
    · exact h2
    · rw [List.mem_singleton.mp ha]; exact h3
  · exact hQ g hg a ha b hb c hc (q _ (mir_RT hg hc) (by rw [mulS_mirR hg ha hc, h2]) (by rw [mulS_mirR hg hb hc, h3]))
theorem osq_mir {g : List Int} (hg : g ∈ RT) {A : List (List Int)} (hA : ∀ a ∈ A, Lat a) : (osq (A.map (mir g))).length = (osq A).length := by
  unfold osq
  rw [← List.countP_eq_length_filter, ← List.countP_eq_length_filter]
  refine count_mir hg _ _ fun x hx => ?_
  rw [List.all_map]
  rw [Bool.eq_iff_iff, List.all_eq_true, List.all_eq_true]
  have e : ∀ a ∈ A, mulS (mir g a) (mir g x) = mulS a x := fun a ha => mulS_mir hg (hA a ha) (RT_lat hx)
  exact ⟨fun h a ha => by rw [← e a ha]; exact h a ha, fun h a ha => by show (mulS (mir g a) (mir g x) == 0) = true; rw [e a ha]; exact h a ha⟩
theorem o126 : ∀ a ∈ RT, (osq [a]).length = 126 :=
  root_ind (by decide +kernel) fun g hg a ha q => by
    rw [← q]
    exact (osq_mir hg (A := [a]) (by simpa using RT_lat ha)).symm
theorem lat2 {a b : List Int} (ha : a ∈ RT) (hb : b ∈ RT) : ∀ x ∈ [a, b], Lat x := by
  intro x hx
  rcases List.mem_cons.mp hx with rfl | hx
  · exact RT_lat ha
  · rw [List.mem_singleton.mp hx]; exact RT_lat hb
theorem lat3 {a b c : List Int} (ha : a ∈ RT) (hb : b ∈ RT) (hc : c ∈ RT) : ∀ x ∈ [a, b, c], Lat x := by
  intro x hx
  rcases List.mem_cons.mp hx with rfl | hx
  · exact RT_lat ha
  · exact lat2 hb hc x hx
theorem lat4 {a b c d : List Int} (ha : a ∈ RT) (hb : b ∈ RT) (hc : c ∈ RT) (hd : d ∈ RT) : ∀ x ∈ [a, b, c, d], Lat x := by
  intro x hx
  rcases List.mem_cons.mp hx with rfl | hx
  · exact RT_lat ha
  · exact lat3 hb hc hd x hx
theorem o60 : ∀ a ∈ RT, ∀ b ∈ RT, mulS a b = 0 → (osq [a, b]).length = 60 :=
  opair_ind (by decide +kernel) fun g hg a ha b hb q => by
    rw [← q]
    exact (osq_mir hg (A := [a, b]) (lat2 ha hb)).symm
def O3 : List (List Int) := osq [r0, b0, c0]
theorem O3_26 : O3.length = 26 := by decide +kernel
theorem O3_8 : O3.countP (fun x => O3.countP (fun y => mulS x y == 0) == 8) = 24 := by decide +kernel
theorem O3_24 : O3.countP (fun x => O3.countP (fun y => mulS x y == 0) == 24) = 2 := by decide +kernel
theorem osq4 {a b c x : List Int} : (osq [a, b, c, x]).length = (osq [a, b, c]).countP fun y => mulS x y == 0 := by
  unfold osq
  rw [List.countP_filter, ← List.countP_eq_length_filter]
  refine List.countP_congr fun y _ => ?_
  simp only [List.all_cons, List.all_nil, Bool.and_true, Bool.and_eq_true]
  constructor
  · rintro ⟨h1, h2, h3, h4⟩; exact ⟨h4, h1, h2, h3⟩
  · rintro ⟨h4, h1, h2, h3⟩; exact ⟨h1, h2, h3, h4⟩
theorem o26 : ∀ a ∈ RT, ∀ b ∈ RT, ∀ c ∈ RT, mulS a b = 0 → mulS a c = 0 → mulS b c = 0 → (osq [a, b, c]).length = 26 ∧ (∀ n, n = 8 ∨ n = 24 → (osq [a, b, c]).countP (fun x => (osq [a, b, c, x]).length == n) = if n = 8 then 24 else 2) := by
  refine otri_ind ⟨O3_26, fun n hn => ?_⟩ fun g hg a ha b hb c hc q => ⟨?_, fun n hn => ?_⟩
  · have e : ∀ m, (osq [r0, b0, c0]).countP (fun x => (osq [r0, b0, c0, x]).length == m) = O3.countP (fun x => O3.countP (fun y => mulS x y == 0) == m) := fun m => List.countP_congr fun x _ => by rw [osq4]; rfl
    rcases hn with rfl | rfl
    · rw [e, O3_8]; rfl
    · rw [e, O3_24]; rfl
  · rw [← q.1]
    exact (osq_mir hg (A := [a, b, c]) (lat3 ha hb hc)).symm
  · rw [← q.2 n hn]
    unfold osq
    rw [List.countP_filter, List.countP_filter]
    refine (count_mir hg _ _ fun x hx => ?_).symm
    have h1 : (List.filter (fun y => [mir g a, mir g b, mir g c, mir g x].all fun z => mulS z y == 0) RT).length = (List.filter (fun y => [a, b, c, x].all fun z => mulS z y == 0) RT).length := osq_mir hg (A := [a, b, c, x]) (lat4 ha hb hc hx)
    rw [h1]
    simp only [List.all_cons, List.all_nil, Bool.and_true]
    rw [mulS_mirR hg ha hx, mulS_mirR hg hb hx, mulS_mirR hg hc hx]
end Pf

set_option Elab.async false
set_option linter.all false
set_option maxRecDepth 100000
set_option maxHeartbeats 4000000
namespace Pf
open PySem PySem.Spec PyProof.Rows L2

/-! ## frames -/
def neg (x : List Int) : List Int := smul (-1) x
theorem neg_lat {x : List Int} (h : Lat x) : Lat (neg x) := h.smul _
theorem mulS_neg (x y : List Int) : mulS (neg x) y = -mulS x y := by unfold neg; rw [mulS_smul]; omega
theorem mulS_neg' (x y : List Int) : mulS x (neg y) = -mulS x y := by rw [mulS_comm, mulS_neg, mulS_comm]
theorem neg_neg : ∀ x : List Int, neg (neg x) = x
  | [] => rfl
  | a :: x => by
    show (-1 * (-1 * a)) :: neg (neg x) = a :: x
    rw [neg_neg x]
    congr 1
    omega
theorem neg_RT {x : List Int} (h : x ∈ RT) : neg x ∈ RT := RT_mk (neg_lat (RT_lat h)) (by rw [mulS_neg, mulS_neg', RT_sq h]; rfl)
theorem less_smul : ∀ {x g : List Int} (m k : Int), less (smul m x) g (m * k) = smul m (less x g k)
  | [], [], _, _ => rfl
  | [], _ :: _, _, _ => rfl
  | _ :: _, [], _, _ => rfl
  | a :: x, b :: g, m, k => by
    show (m * a - m * k * b) :: less (smul m x) g (m * k) = (m * (a - k * b)) :: smul m (less x g k)
    rw [less_smul m k, Int.mul_sub, Int.mul_assoc]
theorem mir_smul {g x : List Int} (m : Int) (hg : g ∈ RT) (hx : Lat x) : mir g (smul m x) = smul m (mir g x) := by
  unfold mir
  have : dot g (smul m x) = m * dot g x := dot_of (RT_lat hg) (hx.smul m) (by rw [mulS_comm, mulS_smul, mulS_comm, (RT_lat hg).dot hx, Int.mul_left_comm])
  rw [this, less_smul]
theorem less_add : ∀ {x y g : List Int} (j k : Int), less (add x y) g (j + k) = add (less x g j) (less y g k)
  | [], [], g, _, _ => by cases g <;> rfl
  | [], _ :: _, g, _, _ => by cases g <;> rfl
  | _ :: _, [], g, _, _ => by cases g <;> rfl
  | a :: x, b :: y, [], _, _ => rfl
  | a :: x, b :: y, c :: g, j, k => by
    show (a + b - (j + k) * c) :: less (add x y) g (j + k) = (a - j * c + (b - k * c)) :: add (less x g j) (less y g k)
    rw [less_add j k, Int.add_mul]
    congr 1
    omega
theorem mir_add {g x y : List Int} (hg : g ∈ RT) (hx : Lat x) (hy : Lat y) : mir g (add x y) = add (mir g x) (mir g y) := by
  unfold mir
  have : dot g (add x y) = dot g x + dot g y := dot_of (RT_lat hg) (hx.add hy) (by rw [mulS_comm, mulS_add (by rw [hx.1, hy.1]), mulS_comm x, mulS_comm y, (RT_lat hg).dot hx, (RT_lat hg).dot hy, Int.mul_add])
  rw [this, less_add]
theorem add_rc : ∀ a b c : List Int, add (add a b) c = add (add a c) b
  | [], b, c => by cases b <;> cases c <;> rfl
  | _ :: _, [], c => by cases c <;> rfl
  | _ :: _, _ :: _, [] => rfl
  | x :: a, y :: b, z :: c => by
    show (x + y + z) :: add (add a b) c = (x + z + y) :: add (add a c) b
    rw [add_rc a b c]
    congr 1
    omega
/-- twice a row -/
def Tw (x : List Int) : Prop := ∃ h, Lat h ∧ x = smul 2 h
def half (x : List Int) : List Int := x.map fun a => a.fdiv 2
def twb (x : List Int) : Bool := x.all (fun a => a.fmod 2 == 0) && decide (Lat (half x))
theorem smul_half : ∀ {x : List Int}, (∀ a ∈ x, a.fmod 2 = 0) → smul 2 (half x) = x
  | [], _ => rfl
  | a :: x, h => by
    show (2 * a.fdiv 2) :: smul 2 (half x) = a :: x
    rw [smul_half fun b hb => h b (List.mem_cons_of_mem _ hb)]
    have h1 := h a List.mem_cons_self
    rw [Int.fmod_eq_emod_of_nonneg _ (by decide)] at h1
    rw [Int.fdiv_eq_ediv_of_nonneg _ (by decide)]
    congr 1
    omega
theorem half_smul : ∀ x : List Int, half (smul 2 x) = x
  | [] => rfl
  | a :: x => by
    show (2 * a).fdiv 2 :: half (smul 2 x) = a :: x
    rw [half_smul x, Int.fdiv_eq_ediv_of_nonneg _ (by decide)]
    congr 1
    omega
theorem tw_iff {x : List Int} : twb x = true ↔ Tw x := by
  unfold twb
  rw [Bool.and_eq_true, List.all_eq_true, decide_eq_true_eq]
  constructor
  · rintro ⟨h1, h2⟩
    exact ⟨_, h2, (smul_half fun a ha => by simpa using h1 a ha).symm⟩
  · rintro ⟨h, hl, rfl⟩
    refine ⟨fun a ha => ?_, by rw [half_smul]; exact hl⟩
    obtain ⟨b, _, rfl⟩ := List.mem_map.mp ha
    rw [Int.fmod_eq_emod_of_nonneg _ (by decide)]
    simp
theorem smul_add (m : Int) : ∀ x y : List Int, smul m (add x y) = add (smul m x) (smul m y)
  | [], y => by cases y <;> rfl
  | _ :: _, [] => rfl
  | a :: x, b :: y => by
    show (m * (a + b)) :: smul m (add x y) = (m * a + m * b) :: add (smul m x) (smul m y)
    rw [smul_add m x y, Int.mul_add]
theorem add_back : ∀ {x y : List Int}, x.length = y.length → add (add x y) (smul 2 (neg y)) = add x (neg y)
  | [], [], _ => rfl
  | a :: x, b :: y, h => by
    show (a + b + 2 * (-1 * b)) :: add (add x y) (smul 2 (neg y)) = (a + -1 * b) :: add x (neg y)
    rw [add_back (Nat.succ.inj h : x.length = y.length)]
    congr 1
    omega
theorem add_undo : ∀ {x y : List Int}, x.length = y.length → add (add x y) (neg y) = x
  | [], [], _ => rfl
  | a :: x, b :: y, h => by
    show (a + b + -1 * b) :: add (add x y) (neg y) = a :: x
    rw [add_undo (Nat.succ.inj h : x.length = y.length)]
    congr 1
    omega
theorem neg_smul (m : Int) (x : List Int) : neg (smul m x) = smul m (neg x) := by
  unfold neg smul
  rw [List.map_map, List.map_map]
  refine List.map_congr_left fun a _ => ?_
  show -1 * (m * a) = m * (-1 * a)
  rw [Int.mul_left_comm]
theorem tw_mod {x v : List Int} (hx : Lat x) (hv : Lat v) : Tw (add x (smul 2 v)) ↔ Tw x := by
  constructor
  · rintro ⟨h, hl, e⟩
    refine ⟨add h (neg v), hl.add (neg_lat hv), ?_⟩
    rw [smul_add, ← e, ← neg_smul, add_undo (by rw [hx.1, (hv.smul 2).1])]
  · rintro ⟨h, hl, rfl⟩
    exact ⟨add h v, hl.add hv, (smul_add ..).symm⟩
theorem tw_mir {g x : List Int} (hg : g ∈ RT) (hx : Lat x) : Tw (mir g x) ↔ Tw x := by
  have one : ∀ {x : List Int}, Lat x → Tw x → Tw (mir g x) := by
    rintro x _ ⟨h, hl, rfl⟩
    exact ⟨mir g h, mir_lat hg hl, mir_smul 2 hg hl⟩
  exact ⟨fun h => by rw [← mir_mir hg hx]; exact one (mir_lat hg hx) h, one hx⟩
/-- the sets of T whose sum, put to acc, is twice a row; k are taken -/
def cnt (p : Nat → Bool) : List (List Int) → List Int → Nat → Nat
  | [], acc, k => if twb acc && p k then 1 else 0
  | t :: T, acc, k => cnt p T acc k + cnt p T (add acc t) (k + 1)
section
variable {p : Nat → Bool}
theorem cnt_mod {v : List Int} (hv : Lat v) : ∀ (T : List (List Int)) (acc : List Int) (k : Nat), (∀ t ∈ T, Lat t) → Lat acc → cnt p T (add acc (smul 2 v)) k = cnt p T acc k
  | [], acc, k, _, ha => by
    have : twb (add acc (smul 2 v)) = twb acc := by rw [Bool.eq_iff_iff, tw_iff, tw_iff]; exact tw_mod ha hv
    unfold cnt
    rw [this]
  | t :: T, acc, k, hT, ha => by
    unfold cnt
    have ht := hT t List.mem_cons_self
    have hT' : ∀ t ∈ T, Lat t := fun t h => hT t (List.mem_cons_of_mem _ h)
    rw [cnt_mod hv T acc k hT' ha, add_rc, cnt_mod hv T (add acc t) (k + 1) hT' (ha.add ht)]
theorem cnt_neg {t : List Int} {T : List (List Int)} {acc : List Int} {k : Nat} (hT : ∀ t ∈ T, Lat t) (ht : Lat t) (ha : Lat acc) : cnt p (neg t :: T) acc k = cnt p (t :: T) acc k := by
  show cnt p T acc k + cnt p T (add acc (neg t)) (k + 1) = cnt p T acc k + cnt p T (add acc t) (k + 1)
  rw [← add_back (by rw [ha.1, ht.1]), cnt_mod (neg_lat ht) T _ _ hT (ha.add ht)]
theorem cnt_perm {T U : List (List Int)} (h : T.Perm U) : ∀ (acc : List Int) (k : Nat), cnt p T acc k = cnt p U acc k := by
  induction h with
  | nil => exact fun _ _ => rfl
  | cons x _ ih =>
    intro acc k
    show cnt p _ acc k + cnt p _ (add acc x) (k + 1) = cnt p _ acc k + cnt p _ (add acc x) (k + 1)
    rw [ih, ih]
  | swap x y l =>
    intro acc k
    show cnt p l acc k + cnt p l (add acc x) (k + 1) + (cnt p l (add acc y) (k + 1) + cnt p l (add (add acc y) x) (k + 1 + 1)) = cnt p l acc k + cnt p l (add acc y) (k + 1) + (cnt p l (add acc x) (k + 1) + cnt p l (add (add acc x) y) (k + 1 + 1))
    rw [add_rc acc y x]
    omega
  | trans _ _ h1 h2 => exact fun acc k => (h1 acc k).trans (h2 acc k)
theorem cnt_mir {g : List Int} (hg : g ∈ RT) : ∀ (T : List (List Int)) (acc : List Int) (k : Nat), (∀ t ∈ T, Lat t) → Lat acc → cnt p (T.map (mir g)) (mir g acc) k = cnt p T acc k
  | [], acc, k, _, ha => by
    have : twb (mir g acc) = twb acc := by rw [Bool.eq_iff_iff, tw_iff, tw_iff]; exact tw_mir hg ha
    unfold cnt
    show (if twb (mir g acc) && p k then 1 else 0) = _
    rw [this]
  | t :: T, acc, k, hT, ha => by
    have ht := hT t List.mem_cons_self
    have hT' : ∀ t ∈ T, Lat t := fun t h => hT t (List.mem_cons_of_mem _ h)
    show cnt p (T.map (mir g)) (mir g acc) k + cnt p (T.map (mir g)) (add (mir g acc) (mir g t)) (k + 1) = cnt p T acc k + cnt p T (add acc t) (k + 1)
    rw [← mir_add hg ha ht, cnt_mir hg T acc k hT' ha, cnt_mir hg T _ _ hT' (ha.add ht)]
/-- up to signs -/
theorem cnt_sign (σ : List Int → Bool) : ∀ (T : List (List Int)) (acc : List Int) (k : Nat), (∀ t ∈ T, Lat t) → Lat acc → cnt p (T.map fun t => if σ t then t else neg t) acc k = cnt p T acc k
  | [], _, _, _, _ => rfl
  | t :: T, acc, k, hT, ha => by
    have ht := hT t List.mem_cons_self
    have hT' : ∀ t ∈ T, Lat t := fun t h => hT t (List.mem_cons_of_mem _ h)
    have hm : ∀ u ∈ T.map fun t => if σ t then t else neg t, Lat u := fun u hu => by
      obtain ⟨t, ht, rfl⟩ := List.mem_map.mp hu
      split
      · exact hT' t ht
      · exact neg_lat (hT' t ht)
    rw [List.map_cons]
    have e : cnt p ((if σ t then t else neg t) :: T.map fun t => if σ t then t else neg t) acc k = cnt p (t :: T.map fun t => if σ t then t else neg t) acc k := by
      split
      · rfl
      · exact cnt_neg hm ht ha
    rw [e]
    show cnt p (T.map fun t => if σ t then t else neg t) acc k + cnt p (T.map fun t => if σ t then t else neg t) (add acc t) (k + 1) = cnt p T acc k + cnt p T (add acc t) (k + 1)
    rw [cnt_sign σ T acc k hT' ha, cnt_sign σ T _ _ hT' (ha.add ht)]
end
def z8 : List Int := [0, 0, 0, 0, 0, 0, 0, 0]
theorem z8_lat : Lat z8 := by decide
theorem mir_z8 {g : List Int} (hg : g ∈ RT) : mir g z8 = z8 := mir_fix hg z8_lat (by
  match g, RT_l8 hg with
  | [a, b, c, d, e, f, g, h], _ => simp [mulS, z8])
/-- eight roots, any two of product 0, with 16 such sets, 14 of four -/
structure Fr (F : List (List Int)) : Prop where
  len : F.length = 8
  rt : ∀ x ∈ F, x ∈ RT
  pw : F.Pairwise fun x y => mulS x y = 0
  all : cnt (fun _ => true) F z8 0 = 16
  four : cnt (fun k => k == 4) F z8 0 = 14
theorem Fr.mir {g : List Int} {F : List (List Int)} (h : Fr F) (hg : g ∈ RT) : Fr (F.map (mir g)) := by
  have hl : ∀ t ∈ F, Lat t := fun t ht => RT_lat (h.rt t ht)
  refine ⟨by rw [List.length_map, h.len], fun x hx => ?_, ?_, ?_, ?_⟩
  · obtain ⟨y, hy, rfl⟩ := List.mem_map.mp hx
    exact mir_RT hg (h.rt y hy)
  · refine List.pairwise_map.mpr (h.pw.imp_of_mem fun {x y} hx hy q => ?_)
    rw [mulS_mirR hg (h.rt x hx) (h.rt y hy), q]
  · have := cnt_mir (p := fun _ => true) hg F z8 0 hl z8_lat
    rw [mir_z8 hg] at this
    rw [this, h.all]
  · have := cnt_mir (p := fun k => k == 4) hg F z8 0 hl z8_lat
    rw [mir_z8 hg] at this
    rw [this, h.four]
def E0 : List Int := [0, 0, 2, -2, 0, 0, 0, 0]
def X1 : List (List Int) := [E0, [0, 0, 0, 0, 2, 2, 0, 0], [0, 0, 0, 0, 2, -2, 0, 0], [0, 0, 0, 0, 0, 0, 2, 2], [0, 0, 0, 0, 0, 0, 2, -2]]
def X2 : List (List Int) := [E0, [0, 0, 0, 0, 2, 0, 2, 0], [0, 0, 0, 0, 2, 0, -2, 0], [0, 0, 0, 0, 0, 2, 0, 2], [0, 0, 0, 0, 0, 2, 0, -2]]
def X3 : List (List Int) := [E0, [0, 0, 0, 0, 2, 0, 0, 2], [0, 0, 0, 0, 2, 0, 0, -2], [0, 0, 0, 0, 0, 2, 2, 0], [0, 0, 0, 0, 0, 2, -2, 0]]
def XS : List (List (List Int)) := [X1, X2, X3]
def inPM (X : List (List Int)) (x : List Int) : Bool := X.contains x || X.contains (neg x)
def pwB : List (List Int) → Bool
  | [] => true
  | x :: l => (l.all fun y => mulS x y == 0) && pwB l
theorem pwB_ok : ∀ {l : List (List Int)}, pwB l = true → l.Pairwise fun x y => mulS x y = 0
  | [], _ => .nil
  | x :: l, h => by
    have h' : ((l.all fun y => mulS x y == 0) && pwB l) = true := h
    rw [Bool.and_eq_true, List.all_eq_true] at h'
    exact List.pairwise_cons.mpr ⟨fun y hy => by simpa using h'.1 y hy, pwB_ok h'.2⟩
def frB (F : List (List Int)) : Bool := F.length == 8 && (F.all fun x => RT.contains x) && pwB F && cnt (fun _ => true) F z8 0 == 16 && cnt (fun k => k == 4) F z8 0 == 14
theorem frB_ok {F : List (List Int)} (h : frB F = true) : Fr F := by
  unfold frB at h
  simp only [Bool.and_eq_true, beq_iff_eq, List.all_eq_true, List.contains_iff_mem] at h
  obtain ⟨⟨⟨⟨h1, h2⟩, h3⟩, h4⟩, h5⟩ := h
  exact ⟨h1, h2, pwB_ok h3, h4, h5⟩
theorem XS_fr : XS.all (fun X => frB (r0 :: b0 :: c0 :: X)) = true := by decide +kernel
theorem O3_one : O3.all (fun x => inPM [E0] x || XS.any fun X => inPM X x) = true := by decide +kernel
theorem O3_two : XS.all (fun X => inPM X E0 && O3.all fun x => !inPM X x || (inPM [E0] x || O3.all fun y => !(mulS x y == 0) || inPM X y)) = true := by decide +kernel
theorem inPM_iff {X : List (List Int)} {x : List Int} : inPM X x = true ↔ x ∈ X ∨ neg x ∈ X := by
  unfold inPM
  rw [Bool.or_eq_true, List.contains_iff_mem, List.contains_iff_mem]
theorem inPM_E0 {X : List (List Int)} {x : List Int} (hX : X ∈ XS) (h : inPM [E0] x = true) : inPM X x = true := by
  have he : E0 ∈ X := by
    rcases List.mem_cons.mp hX with rfl | hX
    · exact List.mem_cons_self
    · rcases List.mem_cons.mp hX with rfl | hX
      · exact List.mem_cons_self
      · rw [List.mem_singleton.mp hX]; exact List.mem_cons_self
  rcases inPM_iff.mp h with h | h
  · exact inPM_iff.mpr (.inl (by rw [List.mem_singleton.mp h]; exact he))
  · exact inPM_iff.mpr (.inr (by rw [List.mem_singleton.mp h]; exact he))
theorem pw_or : ∀ {T : List (List Int)}, T.Pairwise (fun x y => mulS x y = 0) → ∀ x ∈ T, ∀ y ∈ T, x = y ∨ mulS x y = 0
  | [], _, x, hx, _, _ => by cases hx
  | a :: T, h, x, hx, y, hy => by
    obtain ⟨p, h'⟩ := List.pairwise_cons.mp h
    rcases List.mem_cons.mp hx with e1 | h1
    · rcases List.mem_cons.mp hy with e2 | h2
      · exact .inl (by rw [e1, e2])
      · exact .inr (by rw [e1]; exact p y h2)
    · rcases List.mem_cons.mp hy with e2 | h2
      · exact .inr (by rw [e2, mulS_comm]; exact p x h1)
      · exact pw_or h' x h1 y h2
theorem frame_base : ∀ T : List (List Int), (∀ x ∈ T, x ∈ osq [r0, b0, c0]) → T.Pairwise (fun x y => mulS x y = 0) → ∃ X, Fr (r0 :: b0 :: c0 :: X) ∧ ∀ x ∈ T, x ∈ X ∨ neg x ∈ X := by
  intro T hT hp
  by_cases q : ∃ x ∈ T, inPM [E0] x = false
  · obtain ⟨x, hx, hxe⟩ := q
    have h1 := List.all_eq_true.mp O3_one x (hT x hx)
    rw [hxe, Bool.false_or, List.any_eq_true] at h1
    obtain ⟨X, hX, hxX⟩ := h1
    refine ⟨X, frB_ok (List.all_eq_true.mp XS_fr X hX), fun y hy => inPM_iff.mp ?_⟩
    have h2 := List.all_eq_true.mp O3_two X hX
    rw [Bool.and_eq_true, List.all_eq_true] at h2
    have h3 := h2.2 x (hT x hx)
    rw [hxX, hxe, Bool.not_true, Bool.false_or, Bool.false_or, List.all_eq_true] at h3
    rcases pw_or hp x hx y hy with rfl | h4
    · exact hxX
    · have := h3 y (hT y hy)
      rw [h4] at this
      simpa using this
  · refine ⟨X1, frB_ok (List.all_eq_true.mp XS_fr X1 (by simp [XS])), fun y hy => inPM_iff.mp (inPM_E0 (by simp [XS]) ?_)⟩
    cases e : inPM [E0] y with
    | true => rfl
    | false => exact absurd ⟨y, hy, e⟩ q
theorem frame_tri : ∀ a ∈ RT, ∀ b ∈ RT, ∀ c ∈ RT, mulS a b = 0 → mulS a c = 0 → mulS b c = 0 → ∀ T : List (List Int), (∀ x ∈ T, x ∈ osq [a, b, c]) → T.Pairwise (fun x y => mulS x y = 0) → ∃ X, Fr (a :: b :: c :: X) ∧ ∀ x ∈ T, x ∈ X ∨ neg x ∈ X := by
  refine otri_ind frame_base fun g hg a ha b hb c hc q T hT hp => ?_
  have hr : ∀ x ∈ T, x ∈ RT := fun x hx => (osq_mem.mp (hT x hx)).1
  have hm : ∀ x ∈ T.map (mir g), x ∈ osq [mir g a, mir g b, mir g c] := by
    intro x hx
    obtain ⟨y, hy, rfl⟩ := List.mem_map.mp hx
    obtain ⟨h1, h2⟩ := osq_mem.mp (hT y hy)
    refine osq_mem.mpr ⟨mir_RT hg h1, fun z hz => ?_⟩
    have e : [mir g a, mir g b, mir g c] = [a, b, c].map (mir g) := rfl
    rw [e] at hz
    obtain ⟨u, hu, rfl⟩ := List.mem_map.mp hz
    rw [mulS_mir hg (lat3 ha hb hc u hu) (RT_lat h1)]
    exact h2 u hu
  obtain ⟨X, hX, h⟩ := q (T.map (mir g)) hm (List.pairwise_map.mpr (hp.imp_of_mem fun {x y} hx hy q => by rw [mulS_mirR hg (hr x hx) (hr y hy), q]))
  refine ⟨X.map (mir g), ?_, fun x hx => ?_⟩
  · have := hX.mir hg
    rw [List.map_cons, List.map_cons, List.map_cons, mir_mir hg (RT_lat ha), mir_mir hg (RT_lat hb), mir_mir hg (RT_lat hc)] at this
    exact this
  · rcases h _ (List.mem_map.mpr ⟨x, hx, rfl⟩) with e | e
    · exact .inl (List.mem_map.mpr ⟨_, e, mir_mir hg (RT_lat (hr x hx))⟩)
    · refine .inr (List.mem_map.mpr ⟨_, e, ?_⟩)
      unfold neg
      rw [mir_smul _ hg (mir_lat hg (RT_lat (hr x hx))), mir_mir hg (RT_lat (hr x hx))]
/-- roots of product 0 are in a frame, up to signs -/
theorem frame_of : ∀ T : List (List Int), (∀ x ∈ T, x ∈ RT) → T.Pairwise (fun x y => mulS x y = 0) → ∃ F, Fr F ∧ ∀ x ∈ T, x ∈ F ∨ neg x ∈ F := by
  have two : ∀ a ∈ RT, ∀ b ∈ RT, mulS a b = 0 → ∃ F, Fr F ∧ a ∈ F ∧ b ∈ F := by
    intro a ha b hb h
    obtain ⟨c, hc⟩ : ∃ c, c ∈ osq [a, b] := List.exists_mem_of_length_pos (by rw [o60 a ha b hb h]; decide)
    obtain ⟨h1, h2⟩ := osq_mem.mp hc
    obtain ⟨X, hX, _⟩ := frame_tri a ha b hb c h1 h (h2 a (by simp)) (h2 b (by simp)) [] (fun x hx => by cases hx) .nil
    exact ⟨_, hX, by simp, by simp⟩
  have one : ∀ a ∈ RT, ∃ F, Fr F ∧ a ∈ F := by
    intro a ha
    obtain ⟨b, hb⟩ : ∃ b, b ∈ osq [a] := List.exists_mem_of_length_pos (by rw [o126 a ha]; decide)
    obtain ⟨h1, h2⟩ := osq_mem.mp hb
    obtain ⟨F, hF, h3, _⟩ := two a ha b h1 (h2 a (by simp))
    exact ⟨F, hF, h3⟩
  intro T hT hp
  match T, hT, hp with
  | [], _, _ =>
    obtain ⟨F, hF, _⟩ := one r0 r0_in
    exact ⟨F, hF, fun x hx => by cases hx⟩
  | [a], hT, _ =>
    obtain ⟨F, hF, h⟩ := one a (hT a (by simp))
    exact ⟨F, hF, fun x hx => .inl (by rw [List.mem_singleton.mp hx]; exact h)⟩
  | [a, b], hT, hp =>
    obtain ⟨F, hF, h1, h2⟩ := two a (hT a (by simp)) b (hT b (by simp)) ((List.pairwise_cons.mp hp).1 b (by simp))
    refine ⟨F, hF, fun x hx => .inl ?_⟩
    rcases List.mem_cons.mp hx with rfl | hx
    · exact h1
    · rw [List.mem_singleton.mp hx]; exact h2
  | a :: b :: c :: T, hT, hp =>
    obtain ⟨p1, hp⟩ := List.pairwise_cons.mp hp
    obtain ⟨p2, hp⟩ := List.pairwise_cons.mp hp
    obtain ⟨p3, hp⟩ := List.pairwise_cons.mp hp
    obtain ⟨X, hX, h⟩ := frame_tri a (hT a (by simp)) b (hT b (by simp)) c (hT c (by simp)) (p1 b (by simp)) (p1 c (by simp)) (p2 c (by simp)) T (fun x hx => by
      refine osq_mem.mpr ⟨hT x (by simp [hx]), fun a ha => ?_⟩
      rcases List.mem_cons.mp ha with rfl | ha
      · exact p1 x (by simp [hx])
      · rcases List.mem_cons.mp ha with rfl | ha
        · exact p2 x (by simp [hx])
        · rw [List.mem_singleton.mp ha]; exact p3 x hx) hp
    refine ⟨_, hX, fun x hx => ?_⟩
    rcases List.mem_cons.mp hx with rfl | hx
    · exact .inl (by simp)
    · rcases List.mem_cons.mp hx with rfl | hx
      · exact .inl (by simp)
      · rcases List.mem_cons.mp hx with rfl | hx
        · exact .inl (by simp)
        · rcases h x hx with e | e
          · exact .inl (by simp [e])
          · exact .inr (by simp [e])
theorem sub_len {α : Type} [DecidableEq α] : ∀ {l m : List α}, l.Nodup → (∀ x ∈ l, x ∈ m) → l.length ≤ m.length
  | [], m, _, _ => Nat.zero_le _
  | x :: l, m, h, hs => by
    have hx := hs x List.mem_cons_self
    have := sub_len (l := l) (m := m.erase x) (List.nodup_cons.mp h).2 fun y hy => (List.mem_erase_of_ne (fun e => (List.nodup_cons.mp h).1 (by rw [← e]; exact hy))).mpr (hs y (List.mem_cons_of_mem _ hy))
    rw [List.length_erase_of_mem hx] at this
    have := List.length_pos_of_mem hx
    rw [List.length_cons]
    omega
section
variable {T : List (List Int)} (hT : ∀ x ∈ T, x ∈ RT) (hp : T.Pairwise fun x y => mulS x y = 0)
include hT hp in
/-- T put into a frame -/
theorem frame_map : ∃ F, Fr F ∧ ∃ σ : List Int → Bool, (∀ x ∈ T, (if σ x then x else neg x) ∈ F) ∧ (T.map fun x => if σ x then x else neg x).Nodup := by
  obtain ⟨F, hF, h⟩ := frame_of T hT hp
  refine ⟨F, hF, fun x => F.contains x, fun x hx => ?_, List.pairwise_map.mpr (hp.imp_of_mem fun {x y} hx hy q e => ?_)⟩
  · by_cases e : F.contains x = true
    · rw [if_pos e]; exact List.contains_iff_mem.mp e
    · rw [if_neg e]
      rcases h x hx with q | q
      · exact absurd (List.contains_iff_mem.mpr q) e
      · exact q
  · have s : ∀ (b c : Bool), mulS (if b then x else neg x) (if c then y else neg y) = 0 := by
      intro b c
      cases b <;> cases c <;> simp [mulS_neg, mulS_neg', q]
    have s1 := s (F.contains x) (F.contains y)
    rw [← e] at s1
    have s2 : mulS (if F.contains x then x else neg x) (if F.contains x then x else neg x) = 8 := by
      split
      · exact RT_sq (hT x hx)
      · exact RT_sq (neg_RT (hT x hx))
    rw [s2] at s1
    cases s1
theorem Fr.nodup {F : List (List Int)} (h : Fr F) : F.Nodup := h.pw.imp_of_mem fun {x y} hx hy q e => by
  subst e
  rw [RT_sq (h.rt x hx)] at q
  cases q
include hT hp in
theorem frame_le : T.length ≤ 8 := by
  obtain ⟨F, hF, σ, h1, h2⟩ := frame_map hT hp
  have := sub_len h2 (m := F) fun y hy => by
    obtain ⟨x, hx, rfl⟩ := List.mem_map.mp hy
    exact h1 x hx
  rwa [List.length_map, hF.len] at this
include hT hp in
/-- fewer than eight: another -/
theorem frame_more (h8 : T.length < 8) : ∃ z ∈ RT, ∀ x ∈ T, mulS x z = 0 := by
  obtain ⟨F, hF, σ, h1, h2⟩ := frame_map hT hp
  obtain ⟨z, hz, hn⟩ : ∃ z ∈ F, z ∉ T.map fun x => if σ x then x else neg x := by
    refine Classical.byContradiction fun hn => ?_
    have := sub_len hF.nodup (m := T.map fun x => if σ x then x else neg x) fun z hz => Classical.byContradiction fun q => hn ⟨z, hz, q⟩
    rw [List.length_map, hF.len] at this
    omega
  refine ⟨z, hF.rt z hz, fun x hx => ?_⟩
  have hx' := h1 x hx
  rcases pw_or hF.pw _ hx' z hz with e | e
  · exact absurd (List.mem_map.mpr ⟨x, hx, e⟩) hn
  · split at e
    · exact e
    · rw [mulS_neg] at e; omega
include hT hp in
theorem frame_cnt (h8 : T.length = 8) : cnt (fun _ => true) T z8 0 = 16 ∧ cnt (fun k => k == 4) T z8 0 = 14 := by
  obtain ⟨F, hF, σ, h1, h2⟩ := frame_map hT hp
  have sub : ∀ y ∈ T.map fun x => if σ x then x else neg x, y ∈ F := fun y hy => by
    obtain ⟨x, hx, rfl⟩ := List.mem_map.mp hy
    exact h1 x hx
  have pm : (T.map fun x => if σ x then x else neg x).Perm F := by
    refine (List.perm_ext_iff_of_nodup h2 hF.nodup).mpr fun z => ⟨sub z, fun hz => Classical.byContradiction fun hn => ?_⟩
    have := sub_len (l := z :: T.map fun x => if σ x then x else neg x) (List.nodup_cons.mpr ⟨hn, h2⟩) (m := F) fun y hy => by
      rcases List.mem_cons.mp hy with rfl | hy
      · exact hz
      · exact sub y hy
    rw [List.length_cons, List.length_map, hF.len] at this
    omega
  have hl : ∀ t ∈ T, Lat t := fun t ht => RT_lat (hT t ht)
  exact ⟨by rw [← cnt_sign σ T z8 0 hl z8_lat, cnt_perm pm, hF.all], by rw [← cnt_sign σ T z8 0 hl z8_lat, cnt_perm pm, hF.four]⟩
end
end Pf

set_option Elab.async false
set_option linter.all false
set_option maxRecDepth 100000
set_option maxHeartbeats 4000000
namespace Pf
open PySem PySem.Spec PyProof.Rows L2
theorem zipD_ints : ∀ (r s : List Int), zipD (r.map D.int) (s.map D.int) = (r.zip s).map fun p => D.tup [.int p.1, .int p.2]
  | [], _ => rfl
  | _ :: _, [] => rfl
  | a :: r, b :: s => by show D.tup [.int a, .int b] :: zipD (r.map D.int) (s.map D.int) = _; rw [zipD_ints r s]; rfl
theorem zip_rows {ρ : En} {φ φ1 : Fd} {S : SA} {r s : List Int} (h : S ρ φ = .ok [row r, row s] φ1) : iZp S ρ φ = .ok ((r.zip s).map fun p => D.tup [.int p.1, .int p.2]) φ1 := by
  unfold iZp
  rw [bind_ok' h]
  show O.ok (zipD (r.map D.int) (s.map D.int)) φ1 = _
  rw [zipD_ints]
theorem zip_map {α β γ : Type} (f : α → β → γ) : ∀ (r : List α) (s : List β), (r.zip s).map (fun p => f p.1 p.2) = List.zipWith f r s
  | [], _ => rfl
  | _ :: _, [] => rfl
  | a :: r, b :: s => by simp [zip_map f r s]
theorem zip_len {r s : List Int} (h : r.length ≤ 1000) : (r.zip s).length ≤ sizeLine := size_le (by rw [List.length_zip]; omega)
theorem gAdd_l {l k : List D} (h : l.length + k.length ≤ 1000000) : gAdd (.lst l) (.lst k) = some (.lst (l ++ k)) := by
  show (if _ then _ else _) = _
  rw [if_pos (size_le h)]
theorem eo_len : EV.length + OD.length = 240 := by decide +kernel
theorem range8 {r s : List Int} (hr : r.length = 8) (hs : s.length = 8) (f : Int → Int → Int) : (List.range 8).map (fun k => f (r.getD k 0) (s.getD k 0)) = List.zipWith f r s := by
  match r, hr, s, hs with
  | [a, b, c, d, e, g, h, i], _, [a', b', c', d', e', g', h', i'], _ => rfl
theorem getD_get {r : List Int} {k : Nat} (hr : r.length = 8) (hk : k ∈ List.range 8) : r[k]? = some (r.getD k 0) := by
  have hk' : k < r.length := by rw [hr]; exact List.mem_range.mp hk
  rw [List.getD_eq_getElem?_getD, List.getElem?_eq_getElem hk']; rfl
theorem getD_bd {r : List Int} {k : Nat} (h : Rw r) (hk : k ∈ List.range 8) : (r.getD k 0).natAbs ≤ 1000000 := h.2 _ (List.mem_of_getElem? (getD_get h.1 hk))
theorem rg8 {ρ : En} {φ : Fd} : iRg1 (aCons (eInt 8) aNil) ρ φ = .ok ((List.range 8).map fun (k : Nat) => D.int k) φ := rg1_ok (n := 8) rfl (by decide)
def R.env : R → En
  | .nx ρ _ => ρ
  | _ => []
theorem seq_env {P Q : SS} {ρ : En} {φ : Fd} {r : R} (h : P ρ φ = .nx (P ρ φ).env φ) (h2 : Q (P ρ φ).env φ = r) : sSeq P Q ρ φ = r := seq_nx h h2
theorem gIx_last (l : List D) (x : D) : gIx (.lst (l ++ [x])) (.int (-1)) = some x := atI_last l x
section
variable {α : Type} [DecidableEq α] {f : α → D} {lt : α → α → Bool} {n : Nat}
theorem ofold0_len (p : List α) (hp : p.length ≤ 100000) : (p.foldl ostep []).length ≤ 100000 := by
  have := ofold_len p []
  simp at this
  omega
theorem each_loop {T : SB} (l : List α) (φ : Fd) (hl : l.length ≤ 100000) (xs : List α) (hxs : xs.length ≤ 100000)
    (hT : ∀ (acc : List α) (x : α), acc.length ≤ 100000 → T [some (D.lst (l.map f)), some (D.lst (acc.map f)), some (f x)] φ = .ok (!decide (acc.getLast? = some x)) φ) :
    ∃ ρ', forGo (tgN 2) (sSeq (sIf T (sSeq (sMut 1 gApp (eVar 2)) sNil) sNil) sNil) (xs.map f) [some (D.lst (l.map f)), some (.lst []), none] φ = .nx ρ' φ ∧ ∃ y, ρ' = [some (D.lst (l.map f)), some (D.lst ((xs.foldl ostep []).map f)), y] := by
  obtain ⟨ρ', h1, h2⟩ := for_inv (T := tgN 2) (φ := φ) (e := f) (B := (sSeq (sIf T (sSeq (sMut 1 gApp (eVar 2)) sNil) sNil) sNil))
    (fun pre ρ => ∃ y, ρ = [some (D.lst (l.map f)), some (D.lst ((pre.foldl ostep []).map f)), y]) xs [] (ρ := [some (D.lst (l.map f)), some (.lst []), none]) ⟨none, rfl⟩ (by
    rintro pre x post ρ hp ⟨y, rfl⟩
    have hpl : pre.length ≤ 100000 := by
      have := congrArg List.length hp
      rw [List.nil_append, List.length_append] at this
      omega
    have hal := ofold0_len pre hpl
    refine ⟨_, rfl, ?_⟩
    have t := hT (pre.foldl ostep []) x hal
    rw [List.foldl_append]
    show ∃ ρ2, _ ∧ ∃ y, ρ2 = [_, some (D.lst ((ostep (pre.foldl ostep []) x).map f)), y]
    generalize pre.foldl ostep [] = acc at hal t
    by_cases e : acc.getLast? = some x
    · refine ⟨_, .inl (seq_nx (if_skip (t.trans (by simp [e]))) rfl), some (f x), ?_⟩
      unfold ostep
      rw [if_pos e]
      rfl
    · refine ⟨_, .inl (seq_nx (if_yes (t.trans (by simp [e])) (seq_nx (app_ok (l := acc.map f) rfl (v_ok rfl) (size_lt (by rw [List.length_map]; omega))) rfl)) rfl), some (f x), ?_⟩
      unfold ostep
      rw [if_neg e, List.map_append]
      rfl)
  exact ⟨ρ', h1, h2⟩
theorem last_ne (h : Emb f lt n) (hn : n < 64) (l acc : List α) (z x : α) (φ : Fd) : (bCmp gNe (eBin gIx (eVar 1) (eUn gNeg (eInt 1))) (eVar 2)) [some (D.lst (l.map f)), some (D.lst ((acc.concat z).map f)), some (f x)] φ = .ok (!decide (z = x)) φ := by
  refine cmp_ok (bin_ok (v_ok rfl) (un_ok rfl rfl) ?_) (v_ok rfl) (h.gNe (by omega) z x)
  have e0 : (acc.concat z).map f = acc.map f ++ [f z] := by simp
  rw [e0]
  exact gIx_last _ _
end
section
variable {α β : Type} {T T1 : Tg} {I1 : SA} {tst1 : SB} {elt : SX} {vs vs1 : List Nat} {ρ : En} {φ φ1 : Fd}
theorem lc2Go_map (e : α → D) (ys : α → List β) (e1 : β → D) (p : α → β → Bool) (g : α → β → D) : ∀ (xs : List α), (∀ x ∈ xs, ∃ ρ1, T (e x) ρ = some ρ1 ∧ I1 ρ1 φ = .ok ((ys x).map e1) φ ∧ ∀ y ∈ ys x, ∃ ρ2, T1 (e1 y) (wipeE ρ1 vs1) = some ρ2 ∧ tst1 ρ2 φ = .ok (p x y) φ ∧ (p x y = true → elt ρ2 φ = .ok (g x y) φ)) →
    lc2Go T bYes I1 T1 tst1 elt vs1 ρ (xs.map e) φ = .ok (xs.flatMap fun x => ((ys x).filter (p x)).map (g x)) φ
  | [], _ => rfl
  | x :: xs, h => by
    obtain ⟨ρ1, h1, h2, h3⟩ := h x List.mem_cons_self
    have ih := lc2Go_map e ys e1 p g xs fun y hy => h y (List.mem_cons_of_mem _ hy)
    have hin := lcGo_map (T := T1) (tst := tst1) (elt := elt) (ρ := wipeE ρ1 vs1) (φ := φ) e1 (p x) (g x) (ys x) h3
    rw [List.map_cons]
    unfold lc2Go
    rw [h1]
    simp only [bYes, h2, hin, ih, List.flatMap_cons]
theorem lc2_ok {I : SA} (xs : List α) (e : α → D) (ys : α → List β) (e1 : β → D) (p : α → β → Bool) (g : α → β → D) (hI : I ρ φ1 = .ok (xs.map e) φ)
    (hl : (xs.flatMap fun x => ((ys x).filter (p x)).map (g x)).length ≤ sizeLine)
    (h : ∀ x ∈ xs, ∃ ρ1, T (e x) (wipeE ρ vs) = some ρ1 ∧ I1 ρ1 φ = .ok ((ys x).map e1) φ ∧ ∀ y ∈ ys x, ∃ ρ2, T1 (e1 y) (wipeE ρ1 vs1) = some ρ2 ∧ tst1 ρ2 φ = .ok (p x y) φ ∧ (p x y = true → elt ρ2 φ = .ok (g x y) φ)) :
    eLc2 I T bYes I1 T1 tst1 elt vs vs1 ρ φ1 = .ok (.lst (xs.flatMap fun x => ((ys x).filter (p x)).map (g x))) φ := by
  unfold eLc2
  rw [hI]
  show (match lc2Go T bYes I1 T1 tst1 elt vs1 (wipeE ρ vs) (xs.map e) φ with | .ok ys φ2 => if ys.length ≤ sizeLine then O.ok (D.lst ys) φ2 else .bad | _ => .bad) = _
  rw [lc2Go_map e ys e1 p g xs h]
  show (if _ then _ else _) = _
  rw [if_pos hl]
end
theorem in_rows (x : List Int) (l : List (List Int)) : gIn false (row x) (rws l) = some (.bl (decide (x ∈ l))) := by
  have := emb_row.gIn (by decide) false x l
  rw [if_neg (by decide)] at this
  exact this.trans (congrArg (fun b => some (D.bl b)) (decide_eq_decide.mpr Iff.rfl))
theorem notin_rows (x : List Int) (l : List (List Int)) : gIn true (row x) (rws l) = some (.bl (!decide (x ∈ l))) := by
  have := emb_row.gIn (by decide) true x l
  rw [if_pos rfl] at this
  exact this.trans (congrArg (fun b => some (D.bl (!b))) (decide_eq_decide.mpr Iff.rfl))
theorem mulS_nn : ∀ x : List Int, 0 ≤ mulS x x
  | [] => by decide
  | a :: x => by
    rw [mulS_cons]
    have := mulS_nn x
    have := sq_nn a
    omega
theorem dot_bd {g x : List Int} (hg : g ∈ RT) (hx : x ∈ RT) : (dot g x).natAbs ≤ 2 := by
  have hl : g.length = x.length := by rw [RT_l8 hg, RT_l8 hx]
  have h1 := mulS_nn (add g x)
  have h2 := mulS_nn (less g x 1)
  rw [mulS_add hl, mulS_comm g, mulS_comm x (add g x), mulS_add hl, mulS_add hl, RT_sq hg, RT_sq hx, mulS_comm x g] at h1
  rw [mulS_less 1 hl, mulS_less' 1 hl, mulS_less' 1 hl, RT_sq hg, RT_sq hx, mulS_comm x g] at h2
  have := (RT_lat hg).dot (RT_lat hx)
  omega
def pfl (d : D) : Bool := d.flatB && d.shp
def pln : Nat → D → Bool
  | 0, d => pfl d
  | n + 1, d => match d with
    | .lst l => decide (l.length ≤ 1000000) && l.all (pln n)
    | .tup l => decide (l.length ≤ 1000000) && l.all (pln n)
    | d => pfl d
theorem len_ok {ρ : En} {φ : Fd} {A : SX} {l : List D} (h : A ρ φ = .ok (.lst l) φ) : eCB gLen (aCons A aNil) ρ φ = .ok (.int (l.length : Int)) φ := cb1_ok h rfl
theorem all_true {n : Nat} {ρ : En} {φ : Fd} {A : SX} (h : A ρ φ = .ok (.lst ((List.range n).map fun _ => D.bl true)) φ) : eCB gAll (aCons A aNil) ρ φ = .ok (.bl true) φ := by
  refine cb1_ok h ?_
  have e : (List.range n).map (fun _ => D.bl true) = ((List.range n).map fun _ => true).map D.bl := by rw [List.map_map]; rfl
  show (blsOf _).map (fun ns : List Bool => D.bl (ns.all id)) = _
  rw [e, blsOf_map]
  simp
theorem pln_row {r : List Int} (h : r.length ≤ 1000000) : pln 1 (row r) = true := by
  show (decide ((r.map D.int).length ≤ 1000000) && (r.map D.int).all (pln 0)) = true
  rw [List.length_map, decide_eq_true h, Bool.true_and, List.all_map, List.all_eq_true]
  intro x _
  rfl
theorem pln_map {α : Type} {f : α → D} {n : Nat} {l : List α} (hl : l.length ≤ 1000000) (h : ∀ x ∈ l, pln n (f x) = true) : pln (n + 1) (.lst (l.map f)) = true := by
  show (decide ((l.map f).length ≤ 1000000) && (l.map f).all (pln n)) = true
  rw [List.length_map, decide_eq_true hl, Bool.true_and, List.all_map, List.all_eq_true]
  intro x hx
  exact h x hx
theorem pln_up : ∀ (n : Nat) (d : D), pln n d = true → pln (n + 1) d = true
  | 0, d, h => by cases d <;> first | exact h | exact absurd h (by simp [pln, pfl, D.flatB])
  | n + 1, d, h => by
    cases d with
    | lst l =>
      have h' : (decide (l.length ≤ 1000000) && l.all (pln n)) = true := h
      rw [Bool.and_eq_true, List.all_eq_true] at h'
      show (decide (l.length ≤ 1000000) && l.all (pln (n + 1))) = true
      rw [Bool.and_eq_true, List.all_eq_true]
      exact ⟨h'.1, fun x hx => pln_up n x (h'.2 x hx)⟩
    | tup l =>
      have h' : (decide (l.length ≤ 1000000) && l.all (pln n)) = true := h
      rw [Bool.and_eq_true, List.all_eq_true] at h'
      show (decide (l.length ≤ 1000000) && l.all (pln (n + 1))) = true
      rw [Bool.and_eq_true, List.all_eq_true]
      exact ⟨h'.1, fun x hx => pln_up n x (h'.2 x hx)⟩
    | _ => exact h
theorem pln_le {n m : Nat} {d : D} (h : pln n d = true) (hm : n ≤ m) : pln m d = true := by
  induction hm with
  | refl => exact h
  | step _ ih => exact pln_up _ _ ih
theorem draw_ix {α : Type} (f : α → D) (l : List α) (φ : Fd) {n : Nat} (m : Int) (hm : m = (n : Int)) (hl : l.length = n) (hn : 0 < n) : ∃ x ∈ l, gIx (.lst (l.map f)) (.int (φ.draw m).1) = some (f x) := by
  subst hm
  obtain ⟨h0, h1⟩ := φ.draw_range (m := (n : Int)) (by omega)
  obtain ⟨k, hk⟩ : ∃ k : Nat, (φ.draw (n : Int)).1 = (k : Int) := ⟨_, (Int.toNat_of_nonneg h0).symm⟩
  rw [hk] at h1 ⊢
  have hkl : k < l.length := by omega
  refine ⟨l[k], List.getElem_mem hkl, gIx_lst ?_⟩
  rw [List.getElem?_map, List.getElem?_eq_getElem hkl]
  rfl
theorem ne_false {α : Type} [DecidableEq α] {f : α → D} {lt : α → α → Bool} {n : Nat} (h : Emb f lt n) (hn : n ≤ 64) (x : α) : gNe (f x) (f x) = some (.bl false) := (h.gNe hn x x).trans (by simp)
theorem ne_len {a b : Nat} (h : a = b) : gNe (.int (a : Int)) (.int (b : Int)) = some (.bl false) := by rw [h]; exact ne_false emb_int (by decide) _
theorem sum_lens (k : Nat) (l : List D) (h : l.length = k) : gLen [.lst l] = some (.int (k : Int)) := by rw [← h]; rfl
end Pf

set_option Elab.async false
set_option linter.all false
set_option maxRecDepth 100000
set_option maxHeartbeats 4000000
namespace Pf
open PySem PySem.Spec PyProof.Rows L2

/-! ## loops and lists that draw -/
theorem draw_at {ρ : En} {φ : Fd} {A : SX} {n : Int} (i : Nat) (h : ρ[i]? = some (some .feed)) (hn : A ρ φ = .ok (.int n) φ) (h0 : 0 < n) (h1 : n < 1073741824) : eCall drawF (aCons (eVar i) (aCons A aNil)) ρ φ = .ok (.int (φ.draw n).1) (φ.draw n).2 := by
  refine call_ok (two_ok (v_ok h) hn) ?_
  show (if 0 < n ∧ n < 1073741824 then O.ok (D.int (φ.draw n).1) (φ.draw n).2 else .bad) = _
  rw [if_pos ⟨h0, h1⟩]
section
variable {α β : Type} {T : Tg} {tst : SB} {elt : SX}
theorem for_st {B : SS} {e : α → D} (P : List α → En → Fd → Prop) : ∀ (xs pre : List α) {ρ : En} {φ : Fd}, P pre ρ φ → (∀ (pre' : List α) (x : α) (post : List α) (ρ : En) (φ : Fd), pre ++ xs = pre' ++ x :: post → P pre' ρ φ → ∃ ρ1, T (e x) ρ = some ρ1 ∧ ∃ ρ2 φ2, (B ρ1 φ = .nx ρ2 φ2 ∨ B ρ1 φ = .ct ρ2 φ2) ∧ P (pre' ++ [x]) ρ2 φ2) →
    ∃ ρ' φ', forGo T B (xs.map e) ρ φ = .nx ρ' φ' ∧ P (pre ++ xs) ρ' φ'
  | [], pre, ρ, φ, h0, _ => ⟨ρ, φ, rfl, by simpa using h0⟩
  | x :: xs, pre, ρ, φ, h0, hs => by
    obtain ⟨ρ1, h1, ρ2, φ2, h2, h3⟩ := hs pre x xs ρ φ rfl h0
    obtain ⟨ρ', φ', h4, h5⟩ := for_st (B := B) (e := e) P xs (pre ++ [x]) h3 fun pre' y post ρ φ e' hp => hs pre' y post ρ φ (by rw [← e']; simp) hp
    refine ⟨ρ', φ', ?_, by simpa using h5⟩
    rw [List.map_cons]
    unfold forGo
    rw [h1]
    rcases h2 with h2 | h2 <;> simp only [h2] <;> exact h4
theorem lcGo_st (e : α → D) (g : β → D) (R : α → β → Prop) {ρ : En} : ∀ (xs : List α) (φ : Fd), (∀ x ∈ xs, ∀ φ, ∃ ρ1 b φ1, T (e x) ρ = some ρ1 ∧ tst ρ1 φ = .ok b φ1 ∧ (b = true → ∃ z φ2, R x z ∧ elt ρ1 φ1 = .ok (g z) φ2)) →
    ∃ (zs : List β) (φ' : Fd), lcGo T tst elt ρ (xs.map e) φ = .ok (zs.map g) φ' ∧ (∀ z ∈ zs, ∃ x ∈ xs, R x z) ∧ zs.length ≤ xs.length
  | [], φ, _ => ⟨[], φ, rfl, fun z hz => (by cases hz), Nat.le_refl _⟩
  | x :: xs, φ, h => by
    obtain ⟨ρ1, b, φ1, h1, h2, h3⟩ := h x List.mem_cons_self φ
    have hxs : ∀ y ∈ xs, ∀ φ, ∃ ρ1 b φ1, T (e y) ρ = some ρ1 ∧ tst ρ1 φ = .ok b φ1 ∧ (b = true → ∃ z φ2, R y z ∧ elt ρ1 φ1 = .ok (g z) φ2) := fun y hy => h y (List.mem_cons_of_mem _ hy)
    cases b with
    | false =>
      obtain ⟨zs, φ', e1, e2, e3⟩ := lcGo_st e g R xs φ1 hxs
      refine ⟨zs, φ', ?_, fun z hz => ?_, by rw [List.length_cons]; omega⟩
      · rw [List.map_cons]; unfold lcGo; rw [h1]; simp only [h2]; exact e1
      · obtain ⟨y, hy, hr⟩ := e2 z hz
        exact ⟨y, List.mem_cons_of_mem _ hy, hr⟩
    | true =>
      obtain ⟨z, φ2, hr, h4⟩ := h3 rfl
      obtain ⟨zs, φ', e1, e2, e3⟩ := lcGo_st e g R xs φ2 hxs
      refine ⟨z :: zs, φ', ?_, fun u hu => ?_, by rw [List.length_cons, List.length_cons]; omega⟩
      · rw [List.map_cons]; unfold lcGo; rw [h1]; simp only [h2, h4, e1]; rfl
      · rcases List.mem_cons.mp hu with rfl | hu
        · exact ⟨x, List.mem_cons_self, hr⟩
        · obtain ⟨y, hy, hr⟩ := e2 u hu
          exact ⟨y, List.mem_cons_of_mem _ hy, hr⟩
theorem lc_st {I : SA} {vs : List Nat} {ρ : En} {φ φ1 : Fd} (xs : List α) (e : α → D) (g : β → D) (R : α → β → Prop) (hI : I ρ φ1 = .ok (xs.map e) φ) (hl : xs.length ≤ sizeLine)
    (h : ∀ x ∈ xs, ∀ φ, ∃ ρ1 b φ1, T (e x) (wipeE ρ vs) = some ρ1 ∧ tst ρ1 φ = .ok b φ1 ∧ (b = true → ∃ z φ2, R x z ∧ elt ρ1 φ1 = .ok (g z) φ2)) :
    ∃ (zs : List β) (φ' : Fd), eLc I T tst elt vs ρ φ1 = .ok (.lst (zs.map g)) φ' ∧ (∀ z ∈ zs, ∃ x ∈ xs, R x z) ∧ zs.length ≤ xs.length := by
  obtain ⟨zs, φ', e1, e2, e3⟩ := lcGo_st e g R (ρ := wipeE ρ vs) xs φ h
  refine ⟨zs, φ', ?_, e2, e3⟩
  unfold eLc
  rw [hI]
  show (match lcGo T tst elt (wipeE ρ vs) (xs.map e) φ with | .ok ys φ2 => if ys.length ≤ sizeLine then O.ok (D.lst ys) φ2 else .bad | _ => .bad) = _
  rw [e1]
  show (if _ then _ else _) = _
  rw [if_pos (by rw [List.length_map]; omega)]
end
/-! ## the greater of two -/
section
variable {α : Type} [DecidableEq α] {f : α → D} {lt : α → α → Bool} {n : Nat}
theorem Emb.okLt (h : Emb f lt n) (hn : n ≤ 64) (x y : α) : okLt (f x) (f y) = true := by
  unfold Pf.okLt
  rw [h.al, h.shp hn, h.shp hn]
  have : (f x).isNon = false := by
    have := h.nn x
    cases e : f x with
    | non => exact absurd e this
    | _ => rfl
  rw [this]
  rfl
theorem Emb.gMax2D (h : Emb f lt n) (hn : n ≤ 64) (x y : α) : gMax2D [f x, f y] = some (f (if lt x y then y else x)) := by
  show (if _ then _ else _) = _
  rw [h.okLt hn, h.okLt hn, h.shp hn, h.shp hn, h.lt]
  unfold alk2
  rw [h.al, h.al, h.al, h.al]
  cases lt x y <;> rfl
end
/-- the greater of a root and its contrary -/
def gr (x : List Int) : List Int := if ltR x (neg x) then neg x else x
theorem gr_or (x : List Int) : gr x = x ∨ gr x = neg x := by
  unfold gr
  split
  · exact .inr rfl
  · exact .inl rfl
theorem gr_RT {x : List Int} (h : x ∈ RT) : gr x ∈ RT := by
  rcases gr_or x with e | e <;> rw [e]
  · exact h
  · exact neg_RT h
theorem gr_mul {x y : List Int} : mulS (gr x) y = 0 ↔ mulS x y = 0 := by
  rcases gr_or x with e | e <;> rw [e]
  rw [mulS_neg]
  omega
theorem neg_ne {x : List Int} (h : x ∈ RT) : neg x ≠ x := fun e => by
  have := mulS_neg x x
  rw [e, RT_sq h] at this
  cases this
theorem gr_gr {x : List Int} (h : x ∈ RT) : gr (gr x) = gr x := by
  unfold gr
  by_cases e : ltR x (neg x) = true
  · rw [if_pos e, neg_neg, if_neg (by rw [tot_row.asym e]; decide)]
  · rw [if_neg e, if_neg e]
theorem gr_neg {x : List Int} (h : x ∈ RT) : gr (neg x) = gr x := by
  unfold gr
  rw [neg_neg]
  by_cases e : ltR x (neg x) = true
  · rw [if_pos e, if_neg (by rw [tot_row.asym e]; decide)]
  · rw [if_neg e]
    by_cases e2 : ltR (neg x) x = true
    · rw [if_pos e2]
    · exact absurd (tot_row.tri _ _ (by simpa using e) (by simpa using e2)).symm (neg_ne h)
theorem gr_one {x : List Int} (h : x ∈ RT) : (gr x = x ∧ gr (neg x) ≠ neg x) ∨ (gr x ≠ x ∧ gr (neg x) = neg x) := by
  rw [gr_neg h]
  rcases gr_or x with e | e
  · exact .inl ⟨e, by rw [e]; exact (neg_ne h).symm⟩
  · exact .inr ⟨by rw [e]; exact neg_ne h, e⟩
theorem neg_perm : (RT.map neg).Perm RT := by
  refine (List.perm_ext_iff_of_nodup (map_nodup RT_nodup fun a ha b hb e => ?_) RT_nodup).mpr fun x => ⟨fun h => ?_, fun h => ?_⟩
  · rw [← neg_neg a, e, neg_neg]
  · obtain ⟨y, hy, rfl⟩ := List.mem_map.mp h
    exact neg_RT hy
  · exact List.mem_map.mpr ⟨neg x, neg_RT h, neg_neg x⟩
/-- half of what contraries share are greater -/
theorem count_gr {P : List Int → Bool} (h : ∀ x ∈ RT, P (neg x) = P x) : 2 * RT.countP (fun x => decide (gr x = x) && P x) = RT.countP P := by
  have e1 : RT.countP (fun x => decide (gr x = x) && P x) = RT.countP fun x => !decide (gr x = x) && P x := by
    rw [← neg_perm.countP_eq, List.countP_map]
    refine List.countP_congr fun x hx => ?_
    show (decide (gr (neg x) = neg x) && P (neg x)) = true ↔ _
    rw [h x hx]
    rcases gr_one hx with ⟨q1, q2⟩ | ⟨q1, q2⟩ <;> simp [q1, q2]
  have e2 : ∀ l : List (List Int), l.countP P = l.countP (fun x => decide (gr x = x) && P x) + l.countP fun x => !decide (gr x = x) && P x := by
    intro l
    induction l with
    | nil => rfl
    | cons x l ih =>
      rw [List.countP_cons, List.countP_cons, List.countP_cons, ih]
      by_cases q : gr x = x <;> cases P x <;> simp [q] <;> omega
  rw [e2 RT]
  omega
end Pf

set_option Elab.async false
set_option linter.all false
set_option maxRecDepth 100000
set_option maxHeartbeats 4000000
namespace Pf
open PySem PySem.Spec PyProof.Rows L2
theorem f_product {r s : List Int} (φ : Fd) (hr : ∀ x ∈ r, x.natAbs ≤ 1000000) (hl : r.length ≤ 1000) : F_row_product [row r, row s] φ = .ok (.int (dot r s)) φ := by
  refine run_ret (bin_ok (cb1_ok (lcm_ok (r.zip s) _ (fun p => D.int (p.1 * p.2)) (zip_rows (two_ok (v_ok rfl) (v_ok rfl))) (zip_len hl) fun p hp => ⟨_, rfl, bin_ok (v_ok rfl) (v_ok rfl) (gMul_ok' ?_)⟩) ?_) rfl (gDiv_ok (by decide) (by decide)))
  · have := hr p.1 (List.of_mem_zip hp).1
    omega
  · have : (r.zip s).map (fun p => D.int (p.1 * p.2)) = (List.zipWith (fun a b => a * b) r s).map D.int := by
      rw [← zip_map, List.map_map]; rfl
    rw [this]
    exact gSum_ints _
theorem f_sum {r s : List Int} (φ : Fd) (hl : r.length ≤ 1000) : F_row_sum [row r, row s] φ = .ok (row (add r s)) φ := by
  refine run_ret ?_
  rw [lcm_ok (r.zip s) _ (fun p => D.int (p.1 + p.2)) (zip_rows (two_ok (v_ok rfl) (v_ok rfl))) (zip_len hl) fun p hp => ⟨_, rfl, bin_ok (v_ok rfl) (v_ok rfl) rfl⟩]
  unfold row add
  rw [← zip_map, List.map_map]; rfl
theorem f_even (φ : Fd) : F_even_roots [] φ = .ok (rws EV) φ := by kernel_rfl
theorem f_odd (φ : Fd) : F_odd_roots [] φ = .ok (rws OD) φ := by kernel_rfl
theorem f_roots (φ : Fd) : F_all_roots [] φ = .ok (rws RT) φ := by
  refine run_ret (cb1_ok (bin_ok (call0_ok (f_even φ)) (call0_ok (f_odd φ)) (gAdd_l (by rw [List.length_map, List.length_map, eo_len]; decide))) ?_)
  have : (EV.map row ++ OD.map row) = (EV ++ OD).map row := (List.map_append ..).symm
  rw [this, emb_row.gSorted (by decide), RT_eo_sort]
  rfl
theorem draw_ok {ρ : En} {φ : Fd} {A : SX} {n : Int} (h : ρ[1]? = some (some .feed)) (hn : A ρ φ = .ok (.int n) φ) (h0 : 0 < n) (h1 : n < 1073741824) : eCall F__law_draw (aCons (eVar 1) (aCons A aNil)) ρ φ = .ok (.int (φ.draw n).1) (φ.draw n).2 := by
  refine call_ok (two_ok (v_ok h) hn) ?_
  show (if 0 < n ∧ n < 1073741824 then O.ok (D.int (φ.draw n).1) (φ.draw n).2 else .bad) = _
  rw [if_pos ⟨h0, h1⟩]
end Pf

set_option Elab.async false
set_option linter.all false
set_option maxRecDepth 100000
set_option maxHeartbeats 4000000
namespace Pf
open PySem PySem.Spec PyProof.Rows L2

/-! ## roots that bring nearer -/
theorem mulS_set : ∀ (l v : List Int) (i : Nat) (a : Int), l.length = v.length → i < l.length → mulS (l.set i a) v = mulS l v + (a - l.getD i 0) * v.getD i 0
  | [], _, _, _, _, h => by cases h
  | x :: l, [], _, _, h, _ => by cases h
  | x :: l, y :: v, 0, a, h, _ => by
    show mulS (a :: l) (y :: v) = mulS (x :: l) (y :: v) + (a - x) * y
    rw [mulS_cons, mulS_cons, Int.sub_mul]
    omega
  | x :: l, y :: v, i + 1, a, h, hi => by
    have ih := mulS_set l v i a (Nat.succ.inj h) (Nat.lt_of_succ_lt_succ hi)
    show mulS (x :: l.set i a) (y :: v) = mulS (x :: l) (y :: v) + (a - l.getD i 0) * v.getD i 0
    rw [mulS_cons, mulS_cons, ih]
    omega
def pr2 (i j : Nat) (a b : Int) : List Int := (z8.set i a).set j b
theorem pr2_in : ∀ i ∈ List.range 8, ∀ j ∈ List.range 8, i < j → ∀ a ∈ [(2 : Int), -2], ∀ b ∈ [(2 : Int), -2], pr2 i j a b ∈ RT := by decide +kernel
theorem mulS_z8 : ∀ v : List Int, mulS z8 v = 0 := by
  have : ∀ (n : Nat) (v : List Int), mulS (List.replicate n 0) v = 0 := by
    intro n
    induction n with
    | zero => intro v; cases v <;> rfl
    | succ n ih =>
      intro v
      cases v with
      | nil => rfl
      | cons a v => rw [List.replicate_succ, mulS_cons, ih, Int.zero_mul]; rfl
  exact this 8
theorem mulS_pr2 {v : List Int} (hv : v.length = 8) {i j : Nat} (hi : i < 8) (hj : j < 8) (h : i < j) (a b : Int) : mulS (pr2 i j a b) v = a * v.getD i 0 + b * v.getD j 0 := by
  unfold pr2
  have hz : ∀ k < 8, z8.getD k 0 = 0 := by decide
  have h1 : (z8.set i a).getD j 0 = 0 := by
    rw [List.getD_eq_getElem?_getD, List.getElem?_set_ne (by omega), ← List.getD_eq_getElem?_getD]
    exact hz j hj
  rw [mulS_set _ v j b (by rw [List.length_set, hv]; rfl) (by rw [List.length_set]; exact hj), mulS_set z8 v i a (by rw [hv]; rfl) (show i < z8.length from hi), mulS_z8, h1, hz i hi]
  simp
theorem pair_le {v : List Int} (hv : v.length = 8) (H : ∀ r ∈ RT, mulS r v ≤ 7) {i j : Nat} (hi : i < 8) (hj : j < 8) (h : i < j) : (v.getD i 0).natAbs + (v.getD j 0).natAbs ≤ 3 := by
  have f : ∀ a ∈ [(2 : Int), -2], ∀ b ∈ [(2 : Int), -2], a * v.getD i 0 + b * v.getD j 0 ≤ 7 := fun a ha b hb => by
    rw [← mulS_pr2 hv hi hj h]
    exact H _ (pr2_in i (List.mem_range.mpr hi) j (List.mem_range.mpr hj) h a ha b hb)
  have f1 := f 2 (by simp) 2 (by simp)
  have f2 := f 2 (by simp) (-2) (by simp)
  have f3 := f (-2) (by simp) 2 (by simp)
  have f4 := f (-2) (by simp) (-2) (by simp)
  omega
theorem evs : ∀ {v : List Int}, (∀ a ∈ v, a % 2 = 0) → v.Pairwise (fun a b => a.natAbs + b.natAbs ≤ 3) → (∀ a ∈ v, a = 0) ∨ ∃ x ∈ v, v.sum = x ∧ x ≠ 0
  | [], _, _ => .inl fun a h => by cases h
  | a :: v, h, hp => by
    obtain ⟨p1, p2⟩ := List.pairwise_cons.mp hp
    have ha := h a List.mem_cons_self
    have hv : ∀ b ∈ v, b % 2 = 0 := fun b hb => h b (List.mem_cons_of_mem _ hb)
    by_cases a0 : a = 0
    · rcases evs hv p2 with q | ⟨x, hx, e, n⟩
      · refine .inl fun b hb => ?_
        rcases List.mem_cons.mp hb with rfl | hb
        · exact a0
        · exact q b hb
      · exact .inr ⟨x, List.mem_cons_of_mem _ hx, by rw [List.sum_cons, a0, e]; omega, n⟩
    · have z : ∀ b ∈ v, b = 0 := fun b hb => by
        have h1 := p1 b hb
        have h2 := hv b hb
        omega
      have zs : ∀ {l : List Int}, (∀ b ∈ l, b = 0) → l.sum = 0 := fun {l} hl => by
        induction l with
        | nil => rfl
        | cons b l ih => rw [List.sum_cons, hl b List.mem_cons_self, ih fun c hc => hl c (List.mem_cons_of_mem _ hc)]; rfl
      exact .inr ⟨a, List.mem_cons_self, by rw [List.sum_cons, zs z]; omega, a0⟩
theorem mulS_zero : ∀ {v : List Int}, (∀ a ∈ v, a = 0) → mulS v v = 0
  | [], _ => rfl
  | a :: v, h => by
    rw [mulS_cons, mulS_zero fun b hb => h b (List.mem_cons_of_mem _ hb), h a List.mem_cons_self]
    rfl
theorem mulS_ones : ∀ {v : List Int}, (∀ a ∈ v, a * a = 1) → mulS v v = v.length
  | [], _ => rfl
  | a :: v, h => by
    rw [mulS_cons, mulS_ones fun b hb => h b (List.mem_cons_of_mem _ hb), h a List.mem_cons_self, List.length_cons]
    omega
theorem big {v : List Int} (hv : Lat v) (h : 16 ≤ mulS v v) : ∃ r ∈ RT, 8 ≤ mulS r v := by
  refine Classical.byContradiction fun hn => ?_
  have H : ∀ r ∈ RT, mulS r v ≤ 7 := fun r hr => by
    refine Int.not_lt.mp fun q => hn ⟨r, hr, by omega⟩
  have gd : ∀ i (hi : i < v.length), v.getD i 0 = v[i] := fun i hi => by rw [List.getD_eq_getElem?_getD, List.getElem?_eq_getElem hi]; rfl
  have hp : v.Pairwise fun a b => a.natAbs + b.natAbs ≤ 3 := List.pairwise_iff_getElem.mpr fun i j hi hj hij => by
    have := pair_le hv.1 H (i := i) (j := j) (by rw [← hv.1]; exact hi) (by rw [← hv.1]; exact hj) hij
    rwa [gd i hi, gd j hj] at this
  have other : ∀ a ∈ v, ∃ b ∈ v, a.natAbs + b.natAbs ≤ 3 := fun a ha => by
    obtain ⟨k, hk, rfl⟩ := List.getElem_of_mem ha
    have hk8 : k < 8 := by rw [← hv.1]; exact hk
    by_cases k0 : k = 0
    · have := pair_le hv.1 H (i := 0) (j := 1) (by decide) (by decide) (by decide)
      rw [gd 0 (by rw [hv.1]; decide), gd 1 (by rw [hv.1]; decide)] at this
      subst k0
      exact ⟨_, List.getElem_mem _, this⟩
    · have := pair_le hv.1 H (i := 0) (j := k) (by decide) hk8 (by omega)
      rw [gd 0 (by rw [hv.1]; decide), gd k hk] at this
      exact ⟨_, List.getElem_mem _, by rw [Nat.add_comm]; exact this⟩
  by_cases ho : v.headD 0 % 2 = 0
  · rcases evs (fun a ha => by have := hv.2.1 a ha; omega) hp with z | ⟨x, hx, e, n⟩
    · rw [mulS_zero z] at h
      omega
    · obtain ⟨b, _, hb⟩ := other x hx
      have := hv.2.2
      rw [e] at this
      omega
  · have one : ∀ a ∈ v, a * a = 1 := fun a ha => by
      obtain ⟨b, hb, hab⟩ := other a ha
      have h1 := hv.2.1 a ha
      have h2 := hv.2.1 b hb
      have : a = 1 ∨ a = -1 := by omega
      rcases this with rfl | rfl <;> rfl
    rw [mulS_ones one, hv.1] at h
    exact absurd h (by decide)
theorem less_l8 {x y : List Int} (hx : x.length = 8) (hy : y.length = 8) : (less x y 1).length = 8 := by rw [less_len (by rw [hx, hy]), hx]
/-- if some whole row brings nearer, so does a root -/
theorem nearer {x : List Int} (hx : x.length = 8) : ∀ (n : Nat) (v : List Int), Lat v → (mulS v v).toNat = n → mulS v v < 2 * mulS x v → ∃ r ∈ RT, 8 < 2 * mulS x r := by
  intro n
  induction n using Nat.strongRecOn with
  | _ n ih =>
    intro v hv hn h
    have nn : 0 ≤ mulS v v := by
      match v, hv.1 with
      | [a, b, c, d, e, f, g, i], _ =>
        show 0 ≤ a * a + (b * b + (c * c + (d * d + (e * e + (f * f + (g * g + (i * i + 0)))))))
        have := sq_nn a
        have := sq_nn b
        have := sq_nn c
        have := sq_nn d
        have := sq_nn e
        have := sq_nn f
        have := sq_nn g
        have := sq_nn i
        omega
    have m8 := hv.sq
    by_cases h8 : mulS v v = 8
    · exact ⟨v, RT_mk hv h8, by omega⟩
    by_cases h0 : mulS v v = 0
    · exfalso
      have : ∀ {v : List Int}, mulS v v = 0 → ∀ x : List Int, mulS x v = 0 := by
        intro v
        induction v with
        | nil => intro _ x; cases x <;> rfl
        | cons a v ihv =>
          intro hz x
          have e1 : a * a + mulS v v = 0 := by rw [← mulS_cons]; exact hz
          have n1 := sq_nn a
          have n2 : ∀ v : List Int, 0 ≤ mulS v v := fun v => by
            induction v with
            | nil => decide
            | cons b v ih => rw [mulS_cons]; have := sq_nn b; omega
          have := n2 v
          have a0 : a = 0 := by
            have : a * a = 0 := by omega
            rcases Int.mul_eq_zero.mp this with q | q <;> exact q
          cases x with
          | nil => rfl
          | cons y x => rw [mulS_cons, a0, Int.mul_zero, ihv (by omega) x]; rfl
      rw [h0, this h0 x] at h
      omega
    obtain ⟨r, hr, hrv⟩ := big hv (by omega)
    have hl : v.length = r.length := by rw [hv.1, RT_l8 hr]
    have hs : Lat (less v r 1) := hv.less 1 (RT_lat hr)
    have e1 : mulS (less v r 1) (less v r 1) = mulS v v - 2 * mulS r v + 8 := by
      rw [mulS_less 1 hl, mulS_less' 1 hl, mulS_less' 1 hl, RT_sq hr, mulS_comm v r]
      omega
    have e2 : mulS x (less v r 1) = mulS x v - mulS x r := by rw [mulS_less' 1 hl]; omega
    by_cases q : 8 < 2 * mulS x r
    · exact ⟨r, hr, q⟩
    · exact ih _ (by omega) (less v r 1) hs rfl (by omega)
/-- the square of the distance -/
def dst (p w : List Int) : Int := mulS (less p w 1) (less p w 1)
theorem less_add_r : ∀ (p w r : List Int), less p (add w r) 1 = less (less p w 1) r 1
  | [], w, r => by cases w <;> cases r <;> rfl
  | _ :: _, [], r => by cases r <;> rfl
  | _ :: _, _ :: _, [] => rfl
  | a :: p, b :: w, c :: r => by
    show (a - 1 * (b + c)) :: less p (add w r) 1 = (a - 1 * b - 1 * c) :: less (less p w 1) r 1
    rw [less_add_r p w r]
    congr 1
    omega
theorem dst_add {p w r : List Int} (hp : p.length = 8) (hw : w.length = 8) (hr : r.length = 8) : dst p (add w r) = dst p w - 2 * mulS (less p w 1) r + mulS r r := by
  unfold dst
  have hl : (less p w 1).length = r.length := by rw [less_l8 hp hw, hr]
  rw [less_add_r, mulS_less 1 hl, mulS_less' 1 hl, mulS_less' 1 hl, mulS_comm r (less p w 1)]
  omega
theorem add_less_back : ∀ {w u : List Int}, w.length = u.length → add w (less u w 1) = u
  | [], [], _ => rfl
  | a :: w, b :: u, h => by
    show (a + (b - 1 * a)) :: add w (less u w 1) = b :: u
    rw [add_less_back (Nat.succ.inj h : w.length = u.length)]
    congr 1
    omega
theorem voronoi {p w : List Int} (hp : p.length = 8) (hw : Lat w) : (∀ r ∈ RT, dst p w ≤ dst p (add w r)) ↔ ∀ u, Lat u → dst p w ≤ dst p u := by
  constructor
  · intro h u hu
    refine Int.not_lt.mp fun q => ?_
    have hv : Lat (less u w 1) := hu.less 1 hw
    have e := dst_add hp hw.1 hv.1
    rw [add_less_back (by rw [hw.1, hu.1])] at e
    obtain ⟨r, hr, h8⟩ := nearer (less_l8 hp hw.1) _ (less u w 1) hv rfl (by omega)
    have h1 := h r hr
    rw [dst_add hp hw.1 (RT_l8 hr), RT_sq hr] at h1
    omega
  · exact fun h r hr => h _ (hw.add (RT_lat hr))
end Pf

set_option Elab.async false
set_option linter.all false
set_option maxRecDepth 100000
set_option maxHeartbeats 4000000
namespace Pf
open PySem PySem.Spec PyProof.Rows L2

/-! ## the nearest rows of one kind -/
def ch (o a : Int) : List Int := if (a - o) % 2 = 0 then [a] else [a + -1, a + 1]
def prodL : List (List Int) → List (List Int)
  | [] => [[]]
  | c :: cs => c.flatMap fun x => (prodL cs).map fun w => x :: w
def lcn (o : Int) (p : List Int) : Nat := p.countP fun a => !decide ((a - o) % 2 = 0)
theorem dst_cons (a b : Int) (p w : List Int) : dst (a :: p) (b :: w) = (a - b) * (a - b) + dst p w := by
  show mulS ((a - 1 * b) :: less p w 1) ((a - 1 * b) :: less p w 1) = _
  rw [mulS_cons, Int.one_mul]
  rfl
theorem dst_nn (p w : List Int) : 0 ≤ dst p w := by
  unfold dst
  generalize less p w 1 = v
  induction v with
  | nil => decide
  | cons b v ih => rw [mulS_cons]; have := sq_nn b; omega
theorem dst_self : ∀ p : List Int, dst p p = 0
  | [] => rfl
  | a :: p => by rw [dst_cons, dst_self p, Int.sub_self]; rfl
theorem dst_zero : ∀ {p w : List Int}, p.length = w.length → dst p w = 0 → w = p
  | [], [], _, _ => rfl
  | a :: p, b :: w, hl, h => by
    rw [dst_cons] at h
    have h1 := sq_nn (a - b)
    have h2 := dst_nn p w
    have : (a - b) * (a - b) = 0 := by omega
    have e : a - b = 0 := by rcases Int.mul_eq_zero.mp this with q | q <;> exact q
    rw [dst_zero (Nat.succ.inj hl : p.length = w.length) (by omega)]
    congr 1
    omega
theorem lcn_cons_yes {o a : Int} {p : List Int} (h : (a - o) % 2 = 0) : lcn o (a :: p) = lcn o p := by unfold lcn; rw [List.countP_cons_of_neg (by simp [h])]
theorem lcn_cons_no {o a : Int} {p : List Int} (h : ¬ (a - o) % 2 = 0) : lcn o (a :: p) = lcn o p + 1 := by unfold lcn; rw [List.countP_cons_of_pos (by simp [h])]
theorem ch_yes {o a : Int} (h : (a - o) % 2 = 0) : ch o a = [a] := by unfold ch; rw [if_pos h]
theorem ch_no {o a : Int} (h : ¬ (a - o) % 2 = 0) : ch o a = [a + -1, a + 1] := by unfold ch; rw [if_neg h]
theorem prodL_cons {c : List Int} {cs : List (List Int)} {w : List Int} : w ∈ prodL (c :: cs) ↔ ∃ x ∈ c, ∃ v ∈ prodL cs, w = x :: v := by
  show w ∈ c.flatMap _ ↔ _
  rw [List.mem_flatMap]
  constructor
  · rintro ⟨x, hx, h⟩
    obtain ⟨v, hv, rfl⟩ := List.mem_map.mp h
    exact ⟨x, hx, v, hv, rfl⟩
  · rintro ⟨x, hx, v, hv, rfl⟩
    exact ⟨x, hx, List.mem_map.mpr ⟨v, hv, rfl⟩⟩
section
variable {o : Int}
theorem prod_mem : ∀ {p w : List Int}, w ∈ prodL (p.map (ch o)) → w.length = p.length ∧ (∀ a ∈ w, (a - o) % 2 = 0) ∧ dst p w = lcn o p
  | [], w, h => by
    rw [List.mem_singleton.mp (show w ∈ [[]] from h)]
    exact ⟨rfl, fun a ha => by (cases ha), rfl⟩
  | a :: p, w, h => by
    rw [List.map_cons] at h
    obtain ⟨x, hx, v, hv, rfl⟩ := prodL_cons.mp h
    obtain ⟨h1, h2, h3⟩ := prod_mem hv
    refine ⟨by rw [List.length_cons, List.length_cons, h1], fun b hb => ?_, ?_⟩
    · rcases List.mem_cons.mp hb with rfl | hb
      · by_cases q : (a - o) % 2 = 0
        · rw [ch_yes q] at hx; rw [List.mem_singleton.mp hx]; exact q
        · rw [ch_no q] at hx
          rcases List.mem_cons.mp hx with e | hx
          · rw [e]; omega
          · rw [List.mem_singleton.mp hx]; omega
      · exact h2 b hb
    · rw [dst_cons, h3]
      by_cases q : (a - o) % 2 = 0
      · rw [ch_yes q] at hx
        rw [List.mem_singleton.mp hx, lcn_cons_yes q, Int.sub_self]
        omega
      · rw [ch_no q] at hx
        rw [lcn_cons_no q]
        rcases List.mem_cons.mp hx with e | hx
        · rw [e, show a - (a + -1) = 1 by omega]; omega
        · rw [List.mem_singleton.mp hx, show a - (a + 1) = -1 by omega]; omega
theorem sq_odd {d : Int} (h : d % 2 = 1) : 1 ≤ d * d ∧ (d * d = 1 → d = 1 ∨ d = -1) := by
  rcases (show d ≤ -3 ∨ d = -1 ∨ d = 1 ∨ 3 ≤ d by omega) with q | rfl | rfl | q
  · have : 3 * 3 ≤ (-d) * (-d) := Int.mul_le_mul (by omega) (by omega) (by decide) (by omega)
    rw [Int.neg_mul_neg] at this
    exact ⟨by omega, fun e => by omega⟩
  · exact ⟨by decide, fun _ => .inr rfl⟩
  · exact ⟨by decide, fun _ => .inl rfl⟩
  · have : 3 * 3 ≤ d * d := Int.mul_le_mul (by omega) (by omega) (by decide) (by omega)
    exact ⟨by omega, fun e => by omega⟩
theorem sq_even {d : Int} (h : d % 2 = 0) : d = 0 ∨ (d * d = 4 ∧ (d = 2 ∨ d = -2)) ∨ 16 ≤ d * d := by
  rcases (show d ≤ -4 ∨ d = -2 ∨ d = 0 ∨ d = 2 ∨ 4 ≤ d by omega) with q | rfl | rfl | rfl | q
  · have : 4 * 4 ≤ (-d) * (-d) := Int.mul_le_mul (by omega) (by omega) (by decide) (by omega)
    rw [Int.neg_mul_neg] at this
    exact .inr (.inr (by omega))
  · exact .inr (.inl ⟨rfl, .inr rfl⟩)
  · exact .inl rfl
  · exact .inr (.inl ⟨rfl, .inl rfl⟩)
  · have : 4 * 4 ≤ d * d := Int.mul_le_mul (by omega) (by omega) (by decide) (by omega)
    exact .inr (.inr (by omega))
theorem prod_low : ∀ {p w : List Int}, w.length = p.length → (∀ a ∈ w, (a - o) % 2 = 0) → (lcn o p : Int) ≤ dst p w ∧ (dst p w = lcn o p → w ∈ prodL (p.map (ch o)))
  | [], [], _, _ => ⟨by show ((0 : Nat) : Int) ≤ 0; decide, fun _ => List.mem_singleton.mpr rfl⟩
  | a :: p, b :: w, hl, hw => by
    obtain ⟨h1, h2⟩ := prod_low (p := p) (w := w) (Nat.succ.inj hl) fun c hc => hw c (List.mem_cons_of_mem _ hc)
    have hb := hw b List.mem_cons_self
    rw [dst_cons]
    have mk : dst p w = lcn o p → b ∈ ch o a → b :: w ∈ prodL ((a :: p).map (ch o)) := fun e hx => prodL_cons.mpr ⟨b, hx, w, h2 e, rfl⟩
    by_cases q : (a - o) % 2 = 0
    · rw [lcn_cons_yes q]
      have hs := sq_nn (a - b)
      refine ⟨by omega, fun e => mk (by omega) ?_⟩
      have : (a - b) * (a - b) = 0 := by omega
      have e : a - b = 0 := by rcases Int.mul_eq_zero.mp this with q | q <;> exact q
      rw [ch_yes q]
      exact List.mem_singleton.mpr (by omega)
    · rw [lcn_cons_no q]
      obtain ⟨s1, s2⟩ := sq_odd (d := a - b) (by omega)
      refine ⟨by omega, fun e => mk (by omega) ?_⟩
      rw [ch_no q]
      rcases s2 (by omega) with e | e
      · exact List.mem_cons.mpr (.inl (by omega))
      · exact List.mem_cons.mpr (.inr (List.mem_singleton.mpr (by omega)))
theorem flat_nodup {c : List Int} {l : List (List Int)} (hc : c.Nodup) (hl : l.Nodup) : (c.flatMap fun x => l.map fun w => x :: w).Nodup := by
  induction c with
  | nil => exact .nil
  | cons x c ih =>
    rw [List.flatMap_cons]
    obtain ⟨h1, h2⟩ := List.nodup_cons.mp hc
    refine List.nodup_append.mpr ⟨map_nodup hl fun a _ b _ e => (List.cons.inj e).2, ih h2, fun a ha b hb e => ?_⟩
    obtain ⟨u, _, rfl⟩ := List.mem_map.mp ha
    obtain ⟨y, hy, hb⟩ := List.mem_flatMap.mp hb
    obtain ⟨v, _, rfl⟩ := List.mem_map.mp hb
    exact h1 (by rw [(List.cons.inj e).1]; exact hy)
theorem prodL_nodup : ∀ {cs : List (List Int)}, (∀ c ∈ cs, c.Nodup) → (prodL cs).Nodup
  | [], _ => by show [([] : List Int)].Nodup; simp
  | c :: cs, h => flat_nodup (h c List.mem_cons_self) (prodL_nodup fun d hd => h d (List.mem_cons_of_mem _ hd))
theorem ch_nodup (o a : Int) : (ch o a).Nodup := by
  unfold ch
  split
  · simp
  · refine List.nodup_cons.mpr ⟨fun h => ?_, by simp⟩
    have := List.mem_singleton.mp h
    omega
theorem prod_nodup (p : List Int) : (prodL (p.map (ch o))).Nodup := prodL_nodup fun c hc => by
  obtain ⟨a, _, rfl⟩ := List.mem_map.mp hc
  exact ch_nodup o a
theorem sum_par : ∀ p : List Int, (p.sum - p.length * o - lcn o p) % 2 = 0
  | [] => by simp [lcn]
  | a :: p => by
    have ih := sum_par p
    rw [List.sum_cons, List.length_cons]
    by_cases q : (a - o) % 2 = 0
    · rw [lcn_cons_yes q]
      have : ((p.length + 1 : Nat) : Int) * o = p.length * o + o := by rw [Int.natCast_add, Int.add_mul]; simp
      rw [this]
      generalize (p.length : Int) * o = z at ih
      omega
    · rw [lcn_cons_no q]
      have : ((p.length + 1 : Nat) : Int) * o = p.length * o + o := by rw [Int.natCast_add, Int.add_mul]; simp
      rw [this]
      generalize (p.length : Int) * o = z at ih
      omega
theorem prod_none : ∀ {p : List Int}, lcn o p = 0 → prodL (p.map (ch o)) = [p]
  | [], _ => rfl
  | a :: p, h => by
    by_cases q : (a - o) % 2 = 0
    · rw [lcn_cons_yes q] at h
      rw [List.map_cons, ch_yes q]
      show [a].flatMap _ = _
      rw [prod_none h]
      rfl
    · rw [lcn_cons_no q] at h; cases h
def s4 (s : Int) (w : List Int) : Bool := decide ((s + w.sum) % 4 = 0)
theorem count_cons (x s : Int) (l : List (List Int)) : (l.map fun w => x :: w).countP (s4 s) = l.countP (s4 (s + x)) := by
  rw [List.countP_map]
  refine List.countP_congr fun w _ => ?_
  show s4 s (x :: w) = true ↔ _
  unfold s4
  rw [List.sum_cons, Int.add_assoc]
theorem prod_count : ∀ {p : List Int} (s : Int), 0 < lcn o p → (s + p.sum + lcn o p) % 2 = 0 → (prodL (p.map (ch o))).countP (s4 s) = 2 ^ (lcn o p - 1)
  | [], s, h, _ => by cases h
  | a :: p, s, h, hs => by
    rw [List.sum_cons] at hs
    by_cases q : (a - o) % 2 = 0
    · rw [lcn_cons_yes q] at h hs ⊢
      rw [List.map_cons, ch_yes q]
      show ([a].flatMap _).countP _ = _
      rw [List.flatMap_cons, List.flatMap_nil, List.append_nil, count_cons, prod_count (s + a) h (by omega)]
    · rw [lcn_cons_no q] at hs ⊢
      rw [List.map_cons, ch_no q]
      show ([a + -1, a + 1].flatMap _).countP _ = _
      rw [List.flatMap_cons, List.flatMap_cons, List.flatMap_nil, List.append_nil, List.countP_append, count_cons, count_cons]
      by_cases z : lcn o p = 0
      · rw [prod_none z, List.countP_singleton, List.countP_singleton, z]
        unfold s4
        by_cases q1 : (s + (a + -1) + p.sum) % 4 = 0
        · rw [if_pos (by simpa using q1), if_neg (by simp; omega)]
        · rw [if_neg (by simpa using q1), if_pos (by simp; omega)]
      · rw [prod_count (s + (a + -1)) (by omega) (by omega), prod_count (s + (a + 1)) (by omega) (by omega)]
        obtain ⟨n, hn⟩ : ∃ n, lcn o p = n + 1 := ⟨lcn o p - 1, by omega⟩
        rw [hn]
        show 2 ^ n + 2 ^ n = 2 ^ (n + 1)
        rw [Nat.pow_succ]
        omega
end
/-! ### steps of two -/
def stepsL : Nat → List (List Int)
  | 0 => []
  | n + 1 => [2 :: List.replicate n 0, -2 :: List.replicate n 0] ++ (stepsL n).map fun w => 0 :: w
theorem add_zero : ∀ p : List Int, add p (List.replicate p.length 0) = p
  | [] => rfl
  | a :: p => by
    show (a + 0) :: add p (List.replicate p.length 0) = a :: p
    rw [add_zero p, Int.add_zero]
theorem step_mem : ∀ {p t : List Int}, t ∈ stepsL p.length → t.length = p.length ∧ dst p (add p t) = 4 ∧ (∀ a ∈ t, a % 2 = 0) ∧ (t.sum = 2 ∨ t.sum = -2)
  | [], t, h => by cases h
  | a :: p, t, h => by
    have zs : ∀ n, (List.replicate n (0 : Int)).sum = 0 := fun n => by induction n with
      | zero => rfl
      | succ n ih => rw [List.replicate_succ, List.sum_cons, ih]; rfl
    have base : ∀ s : Int, s = 2 ∨ s = -2 → (s :: List.replicate p.length 0).length = (a :: p).length ∧ dst (a :: p) (add (a :: p) (s :: List.replicate p.length 0)) = 4 ∧ (∀ b ∈ s :: List.replicate p.length 0, b % 2 = 0) ∧ ((s :: List.replicate p.length 0).sum = 2 ∨ (s :: List.replicate p.length 0).sum = -2) := fun s hs => by
      refine ⟨by simp, ?_, fun b hb => ?_, by rw [List.sum_cons, zs]; omega⟩
      · show dst (a :: p) ((a + s) :: add p (List.replicate p.length 0)) = 4
        rw [dst_cons, add_zero, dst_self, show a - (a + s) = -s by omega]
        rcases hs with rfl | rfl <;> rfl
      · rcases List.mem_cons.mp hb with rfl | hb
        · rcases hs with rfl | rfl <;> rfl
        · rw [(List.mem_replicate.mp hb).2]; rfl
    rcases List.mem_append.mp (show t ∈ [2 :: List.replicate p.length 0, -2 :: List.replicate p.length 0] ++ (stepsL p.length).map fun w => 0 :: w from h) with h | h
    · rcases List.mem_cons.mp h with rfl | h
      · exact base 2 (.inl rfl)
      · rw [List.mem_singleton.mp h]; exact base (-2) (.inr rfl)
    · obtain ⟨v, hv, rfl⟩ := List.mem_map.mp h
      obtain ⟨h1, h2, h3, h4⟩ := step_mem hv
      refine ⟨by rw [List.length_cons, List.length_cons, h1], ?_, fun b hb => ?_, by rw [List.sum_cons]; omega⟩
      · show dst (a :: p) ((a + 0) :: add p v) = 4
        rw [dst_cons, h2, show a - (a + 0) = 0 by omega]
        rfl
      · rcases List.mem_cons.mp hb with rfl | hb
        · rfl
        · exact h3 b hb
theorem step_low : ∀ {p w : List Int}, w.length = p.length → (∀ o : Int, ∀ k : Nat, (p.getD k 0 - w.getD k 0) % 2 = 0) → w = p ∨ (4 ≤ dst p w ∧ (dst p w = 4 → ∃ t ∈ stepsL p.length, w = add p t))
  | [], [], _, _ => .inl rfl
  | a :: p, b :: w, hl, hw => by
    have hl' : w.length = p.length := Nat.succ.inj hl
    have h0 : (a - b) % 2 = 0 := hw 0 0
    have hn := dst_nn p w
    rcases sq_even h0 with e | ⟨e1, e2⟩ | e
    · have eb : b = a := by omega
      subst eb
      rcases step_low hl' fun o k => hw o (k + 1) with e | ⟨h1, h2⟩
      · exact .inl (by rw [e])
      · refine .inr ⟨by rw [dst_cons, Int.sub_self]; omega, fun h => ?_⟩
        rw [dst_cons, Int.sub_self] at h
        obtain ⟨t, ht, e⟩ := h2 (by omega)
        refine ⟨0 :: t, List.mem_append_right _ (List.mem_map.mpr ⟨t, ht, rfl⟩), ?_⟩
        show b :: w = (b + 0) :: add p t
        rw [e, Int.add_zero]
    · refine .inr ⟨by rw [dst_cons, e1]; omega, fun h => ?_⟩
      rw [dst_cons, e1] at h
      have ew := dst_zero hl'.symm (show dst p w = 0 by omega)
      subst ew
      rcases e2 with e2 | e2
      · refine ⟨-2 :: List.replicate w.length 0, List.mem_append_left _ (by simp), ?_⟩
        show b :: w = (a + -2) :: add w (List.replicate w.length 0)
        rw [add_zero]
        congr 1
        omega
      · refine ⟨2 :: List.replicate w.length 0, List.mem_append_left _ (by simp), ?_⟩
        show b :: w = (a + 2) :: add w (List.replicate w.length 0)
        rw [add_zero]
        congr 1
        omega
    · exact .inr ⟨by rw [dst_cons]; omega, fun h => by rw [dst_cons] at h; omega⟩
end Pf

set_option Elab.async false
set_option linter.all false
set_option maxRecDepth 100000
set_option maxHeartbeats 4000000
namespace Pf
open PySem PySem.Spec PyProof.Rows L2

/-! ## the nearest rows -/
def NK (o : Int) (p : List Int) : List (List Int) := if lcn o p = 0 ∧ p.sum % 4 ≠ 0 then (stepsL 8).map (add p) else (prodL (p.map (ch o))).filter fun w => decide (w.sum % 4 = 0)
def dK (o : Int) (p : List Int) : Int := if lcn o p = 0 ∧ p.sum % 4 ≠ 0 then 4 else lcn o p
def Par (o : Int) (w : List Int) : Prop := ∀ a ∈ w, (a - o) % 2 = 0
theorem lat_of_par {o : Int} {w : List Int} (hl : w.length = 8) (h : Par o w) (hs : w.sum % 4 = 0) : Lat w := by
  refine ⟨hl, fun a ha => ?_, hs⟩
  have h0 : (w.headD 0 - o) % 2 = 0 := by
    cases w with
    | nil => cases hl
    | cons b w => exact h b List.mem_cons_self
  have := h a ha
  omega
theorem par_of_lat {w : List Int} (h : Lat w) : Par 0 w ∨ Par 1 w := by
  by_cases q : w.headD 0 % 2 = 0
  · exact .inl fun a ha => by have := h.2.1 a ha; omega
  · exact .inr fun a ha => by have := h.2.1 a ha; omega
theorem lcn_zero {o : Int} {p : List Int} (h : lcn o p = 0) : Par o p := fun a ha => by
  have := List.countP_eq_zero.mp h a ha
  simpa using this
theorem add_par {o : Int} : ∀ {p t : List Int}, Par o p → (∀ b ∈ t, b % 2 = 0) → Par o (add p t)
  | [], t, _, _ => by intro a ha; cases t <;> cases ha
  | _ :: _, [], _, _ => by intro a ha; cases ha
  | a :: p, b :: t, hp, ht => by
    intro c hc
    rcases List.mem_cons.mp (show c ∈ (a + b) :: add p t from hc) with rfl | hc
    · have h1 := hp a List.mem_cons_self
      have h2 := ht b List.mem_cons_self
      omega
    · exact add_par (fun u hu => hp u (List.mem_cons_of_mem _ hu)) (fun u hu => ht u (List.mem_cons_of_mem _ hu)) c hc
theorem add_sum : ∀ {p t : List Int}, t.length = p.length → (add p t).sum = p.sum + t.sum
  | [], [], _ => rfl
  | a :: p, b :: t, h => by
    show ((a + b) :: add p t).sum = _
    rw [List.sum_cons, add_sum (Nat.succ.inj h : t.length = p.length), List.sum_cons, List.sum_cons]
    omega
theorem add_inj : ∀ {p a b : List Int}, a.length = p.length → b.length = p.length → add p a = add p b → a = b
  | [], [], [], _, _, _ => rfl
  | x :: p, a :: as, b :: bs, h1, h2, h => by
    have h' : (x + a) :: add p as = (x + b) :: add p bs := h
    injection h' with e1 e2
    rw [add_inj (Nat.succ.inj h1) (Nat.succ.inj h2) e2]
    congr 1
    omega
section
variable {p : List Int} (hp : p.length = 8)
include hp in
theorem NK_in {o : Int} {w : List Int} (h : w ∈ NK o p) : Lat w ∧ Par o w ∧ dst p w = dK o p := by
  unfold NK at h
  unfold dK
  by_cases q : lcn o p = 0 ∧ p.sum % 4 ≠ 0
  · rw [if_pos q] at h ⊢
    obtain ⟨t, ht, rfl⟩ := List.mem_map.mp h
    obtain ⟨h1, h2, h3, h4⟩ := step_mem (p := p) (t := t) (by rw [hp]; exact ht)
    have hpar := add_par (lcn_zero q.1) h3
    refine ⟨lat_of_par (by rw [add_len h1.symm, hp]) hpar ?_, hpar, h2⟩
    have := sum_par (o := o) p
    rw [add_sum h1]
    rw [q.1, hp] at this
    omega
  · rw [if_neg q] at h ⊢
    obtain ⟨h1, h2⟩ := List.mem_filter.mp h
    obtain ⟨h3, h4, h5⟩ := prod_mem h1
    exact ⟨lat_of_par (by rw [h3, hp]) h4 (by simpa using h2), h4, h5⟩
include hp in
theorem NK_low {o : Int} {w : List Int} (hw : Lat w) (hpar : Par o w) : dK o p ≤ dst p w ∧ (dst p w = dK o p → w ∈ NK o p) := by
  unfold NK dK
  have hl : w.length = p.length := by rw [hw.1, hp]
  by_cases q : lcn o p = 0 ∧ p.sum % 4 ≠ 0
  · rw [if_pos q, if_pos q]
    have hpp := lcn_zero q.1
    have hk : ∀ o' : Int, ∀ k : Nat, (p.getD k 0 - w.getD k 0) % 2 = 0 := fun _ k => by
      by_cases hk : k < 8
      · have h1 : p.getD k 0 ∈ p := by rw [List.getD_eq_getElem?_getD, List.getElem?_eq_getElem (by rw [hp]; exact hk)]; exact List.getElem_mem _
        have h2 : w.getD k 0 ∈ w := by rw [List.getD_eq_getElem?_getD, List.getElem?_eq_getElem (by rw [hw.1]; exact hk)]; exact List.getElem_mem _
        have := hpp _ h1
        have := hpar _ h2
        omega
      · rw [List.getD_eq_getElem?_getD, List.getD_eq_getElem?_getD, List.getElem?_eq_none (by rw [hp]; omega), List.getElem?_eq_none (by rw [hw.1]; omega)]
        decide
    rcases step_low hl hk with e | ⟨h1, h2⟩
    · exact absurd (by rw [← e]; exact hw.2.2) q.2
    · refine ⟨h1, fun e => ?_⟩
      obtain ⟨t, ht, e2⟩ := h2 e
      rw [hp] at ht
      exact List.mem_map.mpr ⟨t, ht, e2.symm⟩
  · rw [if_neg q, if_neg q]
    obtain ⟨h1, h2⟩ := prod_low hl hpar
    exact ⟨h1, fun e => List.mem_filter.mpr ⟨h2 e, by simpa using hw.2.2⟩⟩
include hp in
theorem NK_nodup (o : Int) : (NK o p).Nodup := by
  unfold NK
  split
  · refine map_nodup (by decide +kernel) fun a ha b hb e => ?_
    have l : ∀ t ∈ stepsL 8, t.length = 8 := by decide +kernel
    exact add_inj (by rw [l a ha, hp]) (by rw [l b hb, hp]) e
  · exact (prod_nodup p).sublist List.filter_sublist
include hp in
theorem NK_len (o : Int) : (NK o p).length = if lcn o p = 0 then (if p.sum % 4 = 0 then 1 else 16) else 2 ^ (lcn o p - 1) := by
  unfold NK
  by_cases z : lcn o p = 0
  · rw [if_pos z]
    by_cases q : p.sum % 4 = 0
    · rw [if_neg (fun h => h.2 q), if_pos q, prod_none z, List.filter_cons_of_pos (by simpa using q)]
      rfl
    · rw [if_pos ⟨z, q⟩, if_neg q, List.length_map]
      decide +kernel
  · rw [if_neg (fun h => z h.1), if_neg z, ← List.countP_eq_length_filter]
    have h := prod_count (o := o) (p := p) 0 (by omega) (by
      have := sum_par (o := o) p
      rw [hp] at this
      omega)
    rw [← h]
    refine List.countP_congr fun w _ => ?_
    unfold s4
    rw [Int.zero_add]
include hp in
theorem NK_pos (o : Int) : 0 < (NK o p).length := by
  rw [NK_len hp]
  split
  · split <;> decide
  · exact Nat.pow_pos (by decide)
/-- the least square of a distance -/
def lst (p : List Int) : Int := if dK 0 p ≤ dK 1 p then dK 0 p else dK 1 p
def nall (p : List Int) : List (List Int) := NK 0 p ++ NK 1 p
def NR (p : List Int) : List (List Int) := ((nall p).filter fun w => decide (dst p w = lst p)).mergeSort (leL ltR)
include hp in
theorem nall_in {w : List Int} (h : w ∈ nall p) : Lat w ∧ lst p ≤ dst p w := by
  unfold lst
  rcases List.mem_append.mp h with h | h
  · obtain ⟨h1, _, h3⟩ := NK_in hp h
    exact ⟨h1, by rw [h3]; split <;> omega⟩
  · obtain ⟨h1, _, h3⟩ := NK_in hp h
    exact ⟨h1, by rw [h3]; split <;> omega⟩
include hp in
theorem lst_le {u : List Int} (hu : Lat u) : lst p ≤ dst p u := by
  unfold lst
  rcases par_of_lat hu with q | q
  · have := (NK_low hp hu q).1
    split <;> omega
  · have := (NK_low hp hu q).1
    split <;> omega
include hp in
theorem lst_is : ∃ w ∈ nall p, dst p w = lst p := by
  unfold lst
  obtain ⟨w0, h0⟩ := List.exists_mem_of_length_pos (NK_pos hp 0)
  obtain ⟨w1, h1⟩ := List.exists_mem_of_length_pos (NK_pos hp 1)
  split
  · exact ⟨w0, List.mem_append_left _ h0, (NK_in hp h0).2.2⟩
  · exact ⟨w1, List.mem_append_right _ h1, (NK_in hp h1).2.2⟩
include hp in
theorem NR_iff {w : List Int} : w ∈ NR p ↔ Lat w ∧ dst p w = lst p := by
  unfold NR
  rw [(List.mergeSort_perm _ _).mem_iff, List.mem_filter, decide_eq_true_eq]
  constructor
  · rintro ⟨h1, h2⟩
    exact ⟨(nall_in hp h1).1, h2⟩
  · rintro ⟨h1, h2⟩
    refine ⟨?_, h2⟩
    have := lst_le hp h1
    rcases par_of_lat h1 with q | q
    · obtain ⟨h3, h4⟩ := NK_low hp h1 q
      by_cases e : dst p w = dK 0 p
      · exact List.mem_append_left _ (h4 e)
      · exfalso
        unfold lst at h2
        split at h2 <;> omega
    · obtain ⟨h3, h4⟩ := NK_low hp h1 q
      by_cases e : dst p w = dK 1 p
      · exact List.mem_append_right _ (h4 e)
      · exfalso
        unfold lst at h2
        split at h2 <;> omega
include hp in
theorem NR_min {w : List Int} : w ∈ NR p ↔ Lat w ∧ ∀ u, Lat u → dst p w ≤ dst p u := by
  rw [NR_iff hp]
  constructor
  · rintro ⟨h1, h2⟩
    exact ⟨h1, fun u hu => by rw [h2]; exact lst_le hp hu⟩
  · rintro ⟨h1, h2⟩
    obtain ⟨v, hv, e⟩ := lst_is hp
    have := h2 v (nall_in hp hv).1
    have := lst_le hp h1
    exact ⟨h1, by omega⟩
theorem asc_of {l : List (List Int)} (h : l.Nodup) : (l.mergeSort (leL ltR)).Pairwise fun a b => ltR a b = true := by
  have hn : (l.mergeSort (leL ltR)).Nodup := (List.mergeSort_perm l _).nodup_iff.mpr h
  have := (sort_pw tot_row l).and hn
  refine this.imp fun {a b} ⟨h1, h2⟩ => ?_
  unfold leL at h1
  cases q : ltR a b with
  | true => rfl
  | false => exact absurd (tot_row.tri a b q (by simpa using h1)) h2
include hp in
theorem nall_nodup : (nall p).Nodup := by
  refine List.nodup_append.mpr ⟨NK_nodup hp 0, NK_nodup hp 1, fun a ha b hb e => ?_⟩
  obtain ⟨l1, p1, _⟩ := NK_in hp ha
  obtain ⟨_, p2, _⟩ := NK_in hp hb
  rw [← e] at p2
  cases a with
  | nil => cases l1.1
  | cons x a =>
    have := p1 x List.mem_cons_self
    have := p2 x List.mem_cons_self
    omega
include hp in
theorem NR_asc : (NR p).Pairwise fun a b => ltR a b = true := asc_of ((nall_nodup hp).sublist List.filter_sublist)
include hp in
theorem NR_pos : 0 < (NR p).length := by
  obtain ⟨w, h1, h2⟩ := lst_is hp
  exact List.length_pos_of_mem ((NR_iff hp).mpr ⟨(nall_in hp h1).1, h2⟩)
end
theorem lcn_both : ∀ p : List Int, lcn 0 p + lcn 1 p = p.length
  | [] => rfl
  | a :: p => by
    have ih := lcn_both p
    rw [List.length_cons]
    by_cases q : (a - 0) % 2 = 0
    · rw [lcn_cons_yes q, lcn_cons_no (o := 1) (by omega)]; omega
    · rw [lcn_cons_no q, lcn_cons_yes (o := 1) (by omega)]; omega
end Pf

set_option Elab.async false
set_option linter.all false
set_option maxRecDepth 100000
set_option maxHeartbeats 4000000
namespace Pf
open PySem PySem.Spec PyProof.Rows L2

/-! ## rows alike by two -/
def Cl (R a : List Int) : Prop := Lat a ∧ Tw (less R a 1)
theorem less_back1 : ∀ {R h : List Int}, R.length = h.length → less R (less R h 2) 1 = smul 2 h
  | [], [], _ => rfl
  | a :: R, b :: h, hl => by
    show (a - 1 * (a - 2 * b)) :: less R (less R h 2) 1 = (2 * b) :: smul 2 h
    rw [less_back1 (Nat.succ.inj hl : R.length = h.length)]
    congr 1
    omega
theorem less_back2 : ∀ {R a h : List Int}, R.length = a.length → a.length = h.length → less R a 1 = smul 2 h → a = less R h 2
  | [], [], [], _, _, _ => rfl
  | x :: R, y :: a, z :: h, h1, h2, e => by
    have e' : (x - 1 * y) :: less R a 1 = (2 * z) :: smul 2 h := e
    injection e' with e1 e2
    show y :: a = (x - 2 * z) :: less R h 2
    rw [← less_back2 (Nat.succ.inj h1 : R.length = a.length) (Nat.succ.inj h2 : a.length = h.length) e2]
    congr 1
    omega
theorem less_neg1 : ∀ {R a : List Int}, less R (neg a) 1 = add R a
  | [], a => by cases a <;> rfl
  | _ :: _, [] => rfl
  | x :: R, y :: a => by
    show (x - 1 * (-1 * y)) :: less R (neg a) 1 = (x + y) :: add R a
    rw [less_neg1]
    congr 1
    omega
theorem less_add2 : ∀ {R a : List Int}, R.length = a.length → add R a = add (less R a 1) (smul 2 a)
  | [], [], _ => rfl
  | x :: R, y :: a, h => by
    show (x + y) :: add R a = (x - 1 * y + 2 * y) :: add (less R a 1) (smul 2 a)
    rw [less_add2 (Nat.succ.inj h : R.length = a.length)]
    congr 1
    omega
theorem less_two : ∀ (p w : List Int), less (smul 2 p) w 2 = smul 2 (less p w 1)
  | [], w => by cases w <;> rfl
  | _ :: _, [] => rfl
  | x :: p, y :: w => by
    show (2 * x - 2 * y) :: less (smul 2 p) w 2 = (2 * (x - 1 * y)) :: smul 2 (less p w 1)
    rw [less_two p w]
    congr 1
    omega
theorem smul_sum (m : Int) : ∀ p : List Int, (smul m p).sum = m * p.sum
  | [] => by simp [smul]
  | a :: p => by
    show (m * a :: smul m p).sum = _
    rw [List.sum_cons, smul_sum m p, List.sum_cons, Int.mul_add]
theorem mulS_two (x : List Int) : mulS (smul 2 x) (smul 2 x) = 4 * mulS x x := by rw [mulS_smul, mulS_comm, mulS_smul]; omega
section
variable {R : List Int} (hR : Lat R)
include hR in
theorem Cl.at {a : List Int} (h : Cl R a) : ∃ w, Lat w ∧ less R a 1 = smul 2 w ∧ a = less R w 2 := by
  obtain ⟨ha, w, hw, e⟩ := h
  exact ⟨w, hw, e, less_back2 (by rw [hR.1, ha.1]) (by rw [ha.1, hw.1]) e⟩
include hR in
theorem Cl.of {w : List Int} (hw : Lat w) : Cl R (less R w 2) := ⟨hR.less 2 hw, w, hw, less_back1 (by rw [hR.1, hw.1])⟩
include hR in
theorem Cl.neg {a : List Int} (h : Cl R a) : Cl R (neg a) := by
  refine ⟨neg_lat h.1, ?_⟩
  rw [less_neg1, less_add2 (by rw [hR.1, h.1.1])]
  exact (tw_mod (hR.less 1 h.1) h.1).mpr h.2
include hR in
/-- mirrored by twice a row, a row is alike to the same ones -/
theorem Cl.moved {r a : List Int} (hr : Lat r) : Cl (add R (smul 2 r)) a ↔ Cl R a := by
  have e : ∀ {R r a : List Int}, R.length = r.length → R.length = a.length → less (add R (smul 2 r)) a 1 = add (less R a 1) (smul 2 r) := by
    intro R
    induction R with
    | nil => intro r a h1 h2; cases r with
      | nil => cases a <;> rfl
      | cons _ _ => cases h1
    | cons x R ih =>
      intro r a h1 h2
      cases r with
      | nil => cases h1
      | cons y r =>
        cases a with
        | nil => cases h2
        | cons z a =>
          show (x + 2 * y - 1 * z) :: less (add R (smul 2 r)) a 1 = (x - 1 * z + 2 * y) :: add (less R a 1) (smul 2 r)
          rw [ih (Nat.succ.inj h1) (Nat.succ.inj h2)]
          congr 1
          omega
  unfold Cl
  refine and_congr_right fun ha => ?_
  rw [e (by rw [hR.1, hr.1]) (by rw [hR.1, ha.1])]
  exact tw_mod (hR.less 1 ha) hr
variable {p : List Int} (hp : R = smul 2 p)
include hR hp in
theorem p8 : p.length = 8 := by
  have := hR.1
  rw [hp, smul_len] at this
  exact this
include hR hp in
theorem Cl.dst {w : List Int} : mulS (less R w 2) (less R w 2) = 4 * dst p w := by
  rw [hp, less_two, mulS_two]
  rfl
include hR hp in
theorem dst_even {w : List Int} (hw : Lat w) : Pf.dst p w % 2 = 0 := by
  have h := ((hR.less 2 hw).sq)
  rw [Cl.dst hR hp] at h
  omega
theorem lst_le4 {p : List Int} (h : p.length = 8) : lst p ≤ 4 := by
  have := lcn_both p
  rw [h] at this
  unfold lst dK
  split <;> split <;> split <;> omega
include hR hp in
theorem lst_cases : lst p = 0 ∨ lst p = 2 ∨ lst p = 4 := by
  have h1 := lst_le4 (p8 hR hp)
  obtain ⟨w, hw, e⟩ := lst_is (p8 hR hp)
  have h2 := dst_nn p w
  have h3 := dst_even hR hp (nall_in (p8 hR hp) hw).1
  omega
include hR hp in
theorem tw_lst : Tw R ↔ lst p = 0 := by
  constructor
  · rintro ⟨h, hh, e⟩
    have e2 : p = h := by rw [← half_smul p, ← hp, e, half_smul]
    have h1 := lst_le (p8 hR hp) hh
    rw [e2, dst_self, ← e2] at h1
    obtain ⟨w, hw, e⟩ := lst_is (p8 hR hp)
    have h2 := dst_nn p w
    omega
  · intro h
    obtain ⟨w, hw, e⟩ := lst_is (p8 hR hp)
    have hl := (nall_in (p8 hR hp) hw).1
    have := dst_zero (p := p) (w := w) (by rw [p8 hR hp, hl.1]) (by omega)
    exact ⟨p, by rw [← this]; exact hl, hp⟩
include hR hp in
theorem root_lst {r : List Int} (hr : r ∈ RT) (h : Tw (less R r 1)) : lst p = 2 := by
  obtain ⟨w, hw, _, e⟩ := Cl.at hR ⟨RT_lat hr, h⟩
  have h1 := lst_le (p8 hR hp) hw
  have h2 := Cl.dst hR hp (w := w)
  rw [← e, RT_sq hr] at h2
  rcases lst_cases hR hp with q | q | q
  · exfalso
    obtain ⟨v, hv, e3⟩ := (tw_lst hR hp).mpr q
    have e4 : r = smul 2 (less v w 1) := by rw [e, e3, less_two]
    have h3 := (hv.less 1 hw).sq
    have h4 := RT_sq hr
    rw [e4, mulS_two] at h4
    omega
  · exact q
  · omega
include hR hp in
theorem lst_root (h : lst p = 2) {w : List Int} (hw : w ∈ NR p) : less R w 2 ∈ RT ∧ Tw (less R (less R w 2) 1) := by
  obtain ⟨h1, h2⟩ := (NR_iff (p8 hR hp)).mp hw
  have c := Cl.of hR h1
  exact ⟨RT_mk c.1 (by rw [Cl.dst hR hp, h2, h]; rfl), c.2⟩
include hR in
/-- two roots alike: the one or its contrary -/
theorem root_two {r s : List Int} (hr : r ∈ RT) (hs : s ∈ RT) (h1 : Tw (less R r 1)) (h2 : Tw (less R s 1)) : s = r ∨ s = neg r := by
  obtain ⟨v, hv, _, e1⟩ := Cl.at hR ⟨RT_lat hr, h1⟩
  obtain ⟨w, hw, _, e2⟩ := Cl.at hR ⟨RT_lat hs, h2⟩
  have hl : r.length = s.length := by rw [RT_l8 hr, RT_l8 hs]
  have e3 : ∀ {R v w : List Int}, R.length = v.length → R.length = w.length → less (less R v 2) (less R w 2) 1 = smul 2 (less w v 1) := by
    intro R
    induction R with
    | nil => intro v w h1 h2; cases v with
      | nil => cases w with
        | nil => rfl
        | cons _ _ => cases h2
      | cons _ _ => cases h1
    | cons x R ih =>
      intro v w h1 h2
      cases v with
      | nil => cases h1
      | cons y v =>
        cases w with
        | nil => cases h2
        | cons z w =>
          show (x - 2 * y - 1 * (x - 2 * z)) :: less (less R v 2) (less R w 2) 1 = (2 * (z - 1 * y)) :: smul 2 (less w v 1)
          rw [ih (Nat.succ.inj h1) (Nat.succ.inj h2)]
          congr 1
          omega
  have e4 : less r s 1 = smul 2 (less w v 1) := by rw [e1, e2, e3 (by rw [hR.1, hv.1]) (by rw [hR.1, hw.1])]
  have h3 : mulS (less r s 1) (less r s 1) = 16 - 2 * mulS r s := by
    rw [mulS_less 1 hl, mulS_less' 1 hl, mulS_less' 1 hl, RT_sq hr, RT_sq hs, mulS_comm s r]
    omega
  rw [e4, mulS_two] at h3
  have h4 := (hw.less 1 hv).sq
  have h5 : 0 ≤ mulS (less r s 1) (less r s 1) := dst_nn r s
  have h6 : mulS (less r (neg s) 1) (less r (neg s) 1) = 16 + 2 * mulS r s := by
    have hl' : r.length = (neg s).length := by unfold neg; rw [smul_len, hl]
    rw [mulS_less 1 hl', mulS_less' 1 hl', mulS_less' 1 hl', mulS_neg', mulS_neg', mulS_neg, mulS_neg, RT_sq hr, RT_sq hs, mulS_comm s r]
    omega
  have h7 : 0 ≤ mulS (less r (neg s) 1) (less r (neg s) 1) := dst_nn r (neg s)
  rw [e4, mulS_two] at h5
  have h8 : mulS r s = 8 ∨ mulS r s = -8 := by omega
  rcases h8 with q | q
  · exact .inl (dst_zero (p := r) (w := s) hl (by show mulS (less r s 1) (less r s 1) = 0; rw [e4, mulS_two]; omega))
  · refine .inr ?_
    have := dst_zero (p := r) (w := neg s) (by unfold neg; rw [smul_len, hl]) (by show mulS (less r (neg s) 1) (less r (neg s) 1) = 0; rw [h6, q]; rfl)
    rw [← this, neg_neg]
/-! ### how many are nearest -/
include hR hp in
theorem NR_one (h : lst p = 0) : (NR p).length = 1 := by
  have all : ∀ w ∈ NR p, w = p := fun w hw => by
    obtain ⟨h1, h2⟩ := (NR_iff (p8 hR hp)).mp hw
    exact dst_zero (by rw [p8 hR hp, h1.1]) (by rw [h2, h])
  have hn := lt_nodup tot_row (NR_asc (p8 hR hp))
  have hpos := NR_pos (p8 hR hp)
  match hN : NR p, all, hn, hpos with
  | [x], _, _, _ => rfl
  | x :: y :: l, all, hn, _ =>
    exfalso
    have e1 := all x (by simp)
    have e2 := all y (by simp)
    exact (List.nodup_cons.mp hn).1 (by rw [e1, ← e2]; simp)
include hR hp in
theorem NR_two (h : lst p = 2) : (NR p).length = 2 := by
  obtain ⟨w, hw⟩ := List.exists_mem_of_length_pos (NR_pos (p8 hR hp))
  obtain ⟨hr, ht⟩ := lst_root hR hp h hw
  obtain ⟨hwl, hwd⟩ := (NR_iff (p8 hR hp)).mp hw
  have hn := lt_nodup tot_row (NR_asc (p8 hR hp))
  -- the other
  obtain ⟨v, hv, _, ev⟩ := Cl.at hR (Cl.neg hR ⟨RT_lat hr, ht⟩)
  have hvN : v ∈ NR p := (NR_iff (p8 hR hp)).mpr ⟨hv, by
    have e := Cl.dst hR hp (w := v)
    rw [← ev, mulS_neg, mulS_neg', RT_sq hr] at e
    omega⟩
  have hne : v ≠ w := fun e => by
    rw [e] at ev
    have := mulS_neg (less R w 2) (less R w 2)
    rw [ev, RT_sq hr] at this
    cases this
  have sub : ∀ u ∈ NR p, u ∈ [w, v] := fun u hu => by
    obtain ⟨h1, h2⟩ := lst_root hR hp h hu
    obtain ⟨hul, _⟩ := (NR_iff (p8 hR hp)).mp hu
    have inj : ∀ {x y : List Int}, Lat x → Lat y → less R x 2 = less R y 2 → x = y := fun {x y} hx hy e => by
      have := less_back1 (R := R) (h := x) (by rw [hR.1, hx.1])
      rw [e, less_back1 (by rw [hR.1, hy.1])] at this
      rw [← half_smul x, ← this, half_smul]
    rcases root_two hR hr h1 ht h2 with e | e
    · rw [inj hul hwl e]; simp
    · rw [inj hul hv (by rw [e]; exact ev)]; simp
  have l1 := sub_len hn sub
  have l2 := sub_len (l := [w, v]) (m := NR p) (by simp [Ne.symm hne]) fun u hu => by
    rcases List.mem_cons.mp hu with rfl | hu
    · exact hw
    · rw [List.mem_singleton.mp hu]; exact hvN
  simp only [List.length_cons, List.length_nil] at l1 l2
  omega
include hR hp in
theorem NR_four (h : lst p = 4) : (NR p).length = 16 := by
  have h8 := p8 hR hp
  have one : ∀ o, (∀ w ∈ NK o p, Pf.dst p w = dK o p) := fun o w hw => (NK_in h8 hw).2.2
  have fl : ∀ o, ((NK o p).filter fun w => decide (Pf.dst p w = lst p)).length = if dK o p = 4 then (NK o p).length else 0 := fun o => by
    by_cases q : dK o p = 4
    · rw [if_pos q, List.filter_eq_self.mpr fun w hw => by rw [one o w hw, q, h]; rfl]
    · rw [if_neg q, List.filter_eq_nil_iff.mpr fun w hw => by rw [one o w hw, h]; simpa using q]
      rfl
  unfold NR nall
  rw [(List.mergeSort_perm _ _).length_eq, List.filter_append, List.length_append, fl, fl, NK_len h8, NK_len h8]
  have hb := lcn_both p
  rw [h8] at hb
  have hev : lcn 0 p % 2 = 0 := by
    have s1 := sum_par (o := 0) p
    have s2 := hR.2.2
    have s3 : R.sum = 2 * p.sum := by rw [hp, smul_sum]
    rw [h8] at s1
    omega
  unfold lst at h
  have h0 : dK 0 p = if lcn 0 p = 0 ∧ p.sum % 4 ≠ 0 then (4 : Int) else (lcn 0 p : Int) := rfl
  have h1 : dK 1 p = if lcn 1 p = 0 ∧ p.sum % 4 ≠ 0 then (4 : Int) else (lcn 1 p : Int) := rfl
  by_cases z0 : lcn 0 p = 0
  · have z1 : lcn 1 p = 8 := by omega
    rw [z0] at h0
    rw [z1] at h1
    rw [z0, z1]
    by_cases q : p.sum % 4 = 0
    · rw [if_neg (fun x => x.2 q)] at h0
      rw [if_neg (fun x => absurd x.1 (by decide))] at h1
      rw [h0, h1] at h
      exact absurd h (by decide)
    · rw [if_pos ⟨rfl, q⟩] at h0
      rw [if_neg (by simp)] at h1
      rw [h0, h1]
      simp [q]
  · by_cases z1 : lcn 1 p = 0
    · have z0 : lcn 0 p = 8 := by omega
      rw [z0] at h0
      rw [z1] at h1
      rw [z0, z1]
      by_cases q : p.sum % 4 = 0
      · rw [if_neg (fun x => x.2 q)] at h1
        rw [if_neg (by simp)] at h0
        rw [h0, h1] at h
        exact absurd h (by decide)
      · rw [if_pos ⟨rfl, q⟩] at h1
        rw [if_neg (by simp)] at h0
        rw [h0, h1]
        simp [q]
    · rw [if_neg (fun x => z0 x.1)] at h0
      rw [if_neg (fun x => z1 x.1)] at h1
      rw [h0, h1] at h
      have : lcn 0 p = 4 := by
        split at h <;> omega
      have : lcn 1 p = 4 := by omega
      rw [h0, h1]
      simp_all
end
end Pf

set_option Elab.async false
set_option linter.all false
set_option maxRecDepth 100000
set_option maxHeartbeats 4000000
namespace Pf
open PySem PySem.Spec PyProof.Rows L2

/-! ## frames by residues -/
def RS (k : Int) : List Int := if k = 0 then [0] else if k = 1 then [-3, 1] else if k = 2 then [-2, 2] else [-1, 3]
def res (m : Int) (R : List Int) : List Int := R.map fun x => (x + m).fmod 4
def e4L : Nat → List (List Int)
  | 0 => []
  | n + 1 => [-4 :: List.replicate n 0, 4 :: List.replicate n 0] ++ (e4L n).map fun w => 0 :: w
def rr (q : List Int) : List (List Int) := ((prodL (q.map RS)).filter fun w => decide (dot w w = 4)) ++ if q.sum = 0 then e4L 8 else []
def FR (R : List Int) : List (List Int) := ((rr (res 0 R) ++ rr (res 2 R)).filter fun a => twb (less R a 1)).mergeSort (leL ltR)
def Cong (m : Int) : List Int → List Int → Prop
  | [], [] => True
  | x :: R, a :: w => (a - x - m) % 4 = 0 ∧ Cong m R w
  | _, _ => False
theorem RS_mem {k a : Int} (h0 : 0 ≤ k) (h1 : k < 4) : a ∈ RS k ↔ a.natAbs ≤ 3 ∧ (a - k) % 4 = 0 := by
  unfold RS
  rcases (show k = 0 ∨ k = 1 ∨ k = 2 ∨ k = 3 by omega) with rfl | rfl | rfl | rfl
  · rw [if_pos rfl, List.mem_singleton]; omega
  · rw [if_neg (by decide), if_pos rfl]; simp; omega
  · rw [if_neg (by decide), if_neg (by decide), if_pos rfl]; simp; omega
  · rw [if_neg (by decide), if_neg (by decide), if_neg (by decide)]; simp; omega
theorem RS_nodup (k : Int) : (RS k).Nodup := by
  unfold RS
  split
  · decide
  · split
    · decide
    · split <;> decide
theorem fm4 (x : Int) : x.fmod 4 = x % 4 := Int.fmod_eq_emod_of_nonneg _ (by decide)
theorem prod_res {m : Int} : ∀ {R w : List Int}, w ∈ prodL ((res m R).map RS) ↔ Cong m R w ∧ ∀ a ∈ w, a.natAbs ≤ 3
  | [], [] => ⟨fun _ => ⟨trivial, fun a ha => (by cases ha)⟩, fun _ => List.mem_singleton.mpr rfl⟩
  | [], b :: w => ⟨fun h => (by cases (List.mem_singleton.mp (show (b :: w) ∈ [[]] from h))), fun h => h.1.elim⟩
  | x :: R, [] => ⟨fun h => by
      obtain ⟨y, _, v, _, e⟩ := prodL_cons.mp h
      exact (List.cons_ne_nil _ _ e.symm).elim, fun h => h.1.elim⟩
  | x :: R, b :: w => by
    have ih := prod_res (m := m) (R := R) (w := w)
    have hb : b ∈ RS ((x + m).fmod 4) ↔ b.natAbs ≤ 3 ∧ (b - x - m) % 4 = 0 := by
      rw [fm4, RS_mem (Int.emod_nonneg _ (by decide)) (Int.emod_lt_of_pos _ (by decide))]
      refine and_congr_right fun _ => ?_
      omega
    constructor
    · intro h
      obtain ⟨y, hy, v, hv, e⟩ := prodL_cons.mp h
      injection e with e1 e2
      subst e1 e2
      obtain ⟨h1, h2⟩ := hb.mp hy
      obtain ⟨h3, h4⟩ := ih.mp hv
      exact ⟨⟨h2, h3⟩, fun a ha => by
        rcases List.mem_cons.mp ha with rfl | ha
        · exact h1
        · exact h4 a ha⟩
    · rintro ⟨⟨h1, h2⟩, h3⟩
      exact prodL_cons.mpr ⟨b, hb.mpr ⟨h3 b List.mem_cons_self, h1⟩, w, ih.mpr ⟨h2, fun a ha => h3 a (List.mem_cons_of_mem _ ha)⟩, rfl⟩
theorem Cong.len {m : Int} : ∀ {R w : List Int}, Cong m R w → w.length = R.length
  | [], [], _ => rfl
  | [], _ :: _, h => h.elim
  | _ :: _, [], h => h.elim
  | x :: R, a :: w, h => by rw [List.length_cons, List.length_cons, Cong.len h.2]
theorem mulS_rep0 (n : Nat) : mulS (List.replicate n 0) (List.replicate n 0) = 0 := by
  induction n with
  | zero => rfl
  | succ n ih => rw [List.replicate_succ, mulS_cons, ih]; rfl
theorem e4_in : ∀ {n : Nat} {a : List Int}, a ∈ e4L n → a.length = n ∧ mulS a a = 16 ∧ (∀ x ∈ a, x % 4 = 0) ∧ ∃ x ∈ a, 4 ≤ x.natAbs
  | 0, a, h => by cases h
  | n + 1, a, h => by
    have base : ∀ s : Int, s = -4 ∨ s = 4 → (s :: List.replicate n 0).length = n + 1 ∧ mulS (s :: List.replicate n 0) (s :: List.replicate n 0) = 16 ∧ (∀ x ∈ s :: List.replicate n 0, x % 4 = 0) ∧ ∃ x ∈ s :: List.replicate n 0, 4 ≤ x.natAbs := fun s hs => by
      refine ⟨by simp, ?_, fun b hb => ?_, s, List.mem_cons_self, by omega⟩
      · rw [mulS_cons, mulS_rep0]
        rcases hs with rfl | rfl <;> rfl
      · rcases List.mem_cons.mp hb with rfl | hb
        · rcases hs with rfl | rfl <;> rfl
        · rw [(List.mem_replicate.mp hb).2]; rfl
    rcases List.mem_append.mp (show a ∈ [-4 :: List.replicate n 0, 4 :: List.replicate n 0] ++ (e4L n).map fun w => 0 :: w from h) with h | h
    · rcases List.mem_cons.mp h with rfl | h
      · exact base (-4) (.inl rfl)
      · rw [List.mem_singleton.mp h]; exact base 4 (.inr rfl)
    · obtain ⟨v, hv, rfl⟩ := List.mem_map.mp h
      obtain ⟨h1, h2, h3, x, h4, h5⟩ := e4_in hv
      refine ⟨by rw [List.length_cons, h1], by rw [mulS_cons, h2]; rfl, fun b hb => ?_, x, List.mem_cons_of_mem _ h4, h5⟩
      rcases List.mem_cons.mp hb with rfl | hb
      · rfl
      · exact h3 b hb
theorem sq_ge4 {x : Int} (h : 4 ≤ x.natAbs) : 16 ≤ x * x := by
  rcases (show x ≤ -4 ∨ 4 ≤ x by omega) with q | q
  · have : 4 * 4 ≤ (-x) * (-x) := Int.mul_le_mul (by omega) (by omega) (by decide) (by omega)
    rw [Int.neg_mul_neg] at this
    omega
  · have : 4 * 4 ≤ x * x := Int.mul_le_mul (by omega) (by omega) (by decide) (by omega)
    omega
theorem mulS_nn0 : ∀ x : List Int, 0 ≤ mulS x x
  | [] => by decide
  | a :: x => by
    rw [mulS_cons]
    have := mulS_nn0 x
    have := sq_nn a
    omega
theorem mulS_all0 : ∀ {v : List Int}, mulS v v = 0 → v = List.replicate v.length 0
  | [], _ => rfl
  | a :: v, h => by
    rw [mulS_cons] at h
    have h1 := sq_nn a
    have h2 := mulS_nn0 v
    have : a * a = 0 := by omega
    have e : a = 0 := by rcases Int.mul_eq_zero.mp this with q | q <;> exact q
    rw [List.length_cons, List.replicate_succ, ← mulS_all0 (v := v) (by omega), e]
theorem e4_of : ∀ {a : List Int}, mulS a a = 16 → (∃ x ∈ a, 4 ≤ x.natAbs) → a ∈ e4L a.length
  | [], h, _ => by cases h
  | b :: v, h, ⟨x, hx, h4⟩ => by
    rw [mulS_cons] at h
    have hn := mulS_nn0 v
    have hb := sq_nn b
    by_cases q : 4 ≤ b.natAbs
    · have := sq_ge4 q
      have hv := mulS_all0 (v := v) (by omega)
      have hb2 : b = -4 ∨ b = 4 := by
        have hbb : b * b = 16 := by omega
        have : b.natAbs ≤ 4 := by
          refine Nat.le_of_not_lt fun z => ?_
          rcases (show b ≤ -5 ∨ 5 ≤ b by omega) with q | q
          · have : 5 * 5 ≤ (-b) * (-b) := Int.mul_le_mul (by omega) (by omega) (by decide) (by omega)
            rw [Int.neg_mul_neg] at this
            omega
          · have : 5 * 5 ≤ b * b := Int.mul_le_mul (by omega) (by omega) (by decide) (by omega)
            omega
        omega
      show b :: v ∈ [-4 :: List.replicate v.length 0, 4 :: List.replicate v.length 0] ++ (e4L v.length).map fun w => 0 :: w
      refine List.mem_append_left _ ?_
      rw [← hv]
      rcases hb2 with rfl | rfl <;> simp
    · have hxv : x ∈ v := by
        rcases List.mem_cons.mp hx with e | hx
        · rw [e] at h4; exact absurd h4 q
        · exact hx
      have big : 16 ≤ mulS v v := by
        clear h hn hb q hx
        induction v with
        | nil => cases hxv
        | cons y v ih =>
          rw [mulS_cons]
          have h1 := mulS_nn0 v
          have h2 := sq_nn y
          rcases List.mem_cons.mp hxv with e | hxv
          · have := sq_ge4 h4; rw [e] at this; omega
          · have := ih hxv; omega
      have : b * b = 0 := by omega
      have e : b = 0 := by rcases Int.mul_eq_zero.mp this with q | q <;> exact q
      subst e
      exact List.mem_append_right _ (List.mem_map.mpr ⟨v, e4_of (by omega) ⟨x, hxv, h4⟩, rfl⟩)
theorem res_sum {m : Int} : ∀ {R : List Int}, 0 ≤ (res m R).sum ∧ ((res m R).sum = 0 ↔ ∀ x ∈ R, (x + m) % 4 = 0)
  | [] => ⟨by show (0 : Int) ≤ 0; decide, ⟨fun _ x hx => (by cases hx), fun _ => rfl⟩⟩
  | x :: R => by
    obtain ⟨h1, h2⟩ := res_sum (m := m) (R := R)
    have e : (res m (x :: R)).sum = (x + m) % 4 + (res m R).sum := by
      show ((x + m).fmod 4 :: res m R).sum = _
      rw [List.sum_cons, fm4]
    have hn := Int.emod_nonneg (x + m) (show (4 : Int) ≠ 0 by decide)
    rw [e]
    refine ⟨by omega, ⟨fun h y hy => ?_, fun h => ?_⟩⟩
    · rcases List.mem_cons.mp hy with rfl | hy
      · omega
      · exact h2.mp (by omega) y hy
    · have := h x List.mem_cons_self
      have := h2.mpr fun y hy => h y (List.mem_cons_of_mem _ hy)
      omega
theorem cong_zero {m : Int} : ∀ {R a : List Int}, a.length = R.length → (∀ x ∈ a, x % 4 = 0) → ((∀ x ∈ R, (x + m) % 4 = 0) ↔ Cong m R a)
  | [], [], _, _ => ⟨fun _ => trivial, fun _ x hx => by cases hx⟩
  | x :: R, b :: a, hl, ha => by
    have ih := cong_zero (m := m) (R := R) (a := a) (Nat.succ.inj hl) fun y hy => ha y (List.mem_cons_of_mem _ hy)
    have hb := ha b List.mem_cons_self
    constructor
    · intro h
      exact ⟨by have := h x List.mem_cons_self; omega, ih.mp fun y hy => h y (List.mem_cons_of_mem _ hy)⟩
    · rintro ⟨h1, h2⟩ y hy
      rcases List.mem_cons.mp hy with rfl | hy
      · omega
      · exact ih.mpr h2 y hy
section
variable {R : List Int} (hR : Lat R)
include hR in
theorem rr_mem {m : Int} {a : List Int} : a ∈ rr (res m R) ↔ Cong m R a ∧ (((∀ x ∈ a, x.natAbs ≤ 3) ∧ dot a a = 4) ∨ a ∈ e4L 8) := by
  unfold rr
  rw [List.mem_append, List.mem_filter, prod_res, decide_eq_true_eq]
  constructor
  · rintro (⟨⟨h1, h2⟩, h3⟩ | h)
    · exact ⟨h1, .inl ⟨h2, h3⟩⟩
    · split at h
      · rename_i hs
        obtain ⟨e1, _, e3, _⟩ := e4_in h
        exact ⟨(cong_zero (by rw [e1, hR.1]) e3).mp ((res_sum (m := m)).2.mp hs), .inr h⟩
      · cases h
  · rintro ⟨h1, ⟨h2, h3⟩ | h⟩
    · exact .inl ⟨⟨h1, h2⟩, h3⟩
    · refine .inr ?_
      obtain ⟨e1, _, e3, _⟩ := e4_in h
      rw [if_pos ((res_sum (m := m)).2.mpr ((cong_zero (by rw [e1, hR.1]) e3).mpr h1))]
      exact h
theorem cong_par {o : Int} : ∀ {R w : List Int}, R.length = w.length → Par o w → Cong (2 * o) R (less R w 2)
  | [], [], _, _ => trivial
  | x :: R, y :: w, h, hw => ⟨by
      have := hw y List.mem_cons_self
      show (x - 2 * y - x - 2 * o) % 4 = 0
      omega, cong_par (Nat.succ.inj h) fun z hz => hw z (List.mem_cons_of_mem _ hz)⟩
include hR in
theorem FR_mem {a : List Int} : a ∈ FR R ↔ Cl R a ∧ mulS a a = 16 := by
  unfold FR
  rw [(List.mergeSort_perm _ _).mem_iff, List.mem_filter, List.mem_append, rr_mem hR, rr_mem hR, tw_iff]
  constructor
  · rintro ⟨h, ht⟩
    have core : ∀ m, (Cong m R a ∧ (((∀ x ∈ a, x.natAbs ≤ 3) ∧ dot a a = 4) ∨ a ∈ e4L 8)) → Cl R a ∧ mulS a a = 16 := fun m ⟨h1, h2⟩ => by
      obtain ⟨v, hv, e⟩ := ht
      have ha : Lat a := by
        rw [less_back2 (by rw [h1.len]) (by rw [h1.len, hR.1, hv.1]) e]
        exact hR.less 2 hv
      refine ⟨⟨ha, v, hv, e⟩, ?_⟩
      rcases h2 with ⟨_, h3⟩ | h3
      · have := ha.dot ha; omega
      · exact (e4_in h3).2.1
    rcases h with h | h
    · exact core 0 h
    · exact core 2 h
  · rintro ⟨hc, h16⟩
    refine ⟨?_, hc.2⟩
    obtain ⟨w, hw, _, e⟩ := Cl.at hR hc
    have fin : ((∀ x ∈ a, x.natAbs ≤ 3) ∧ dot a a = 4) ∨ a ∈ e4L 8 := by
      by_cases q : ∃ x ∈ a, 4 ≤ x.natAbs
      · refine .inr ?_
        have := e4_of h16 q
        rwa [hc.1.1] at this
      · refine .inl ⟨fun x hx => ?_, ?_⟩
        · exact Nat.le_of_not_lt fun z => q ⟨x, hx, z⟩
        · have := hc.1.dot hc.1; omega
    rcases par_of_lat hw with q | q
    · have := cong_par (R := R) (by rw [hR.1, hw.1]) q
      rw [← e] at this
      exact .inl ⟨this, fin⟩
    · have := cong_par (R := R) (by rw [hR.1, hw.1]) q
      rw [← e] at this
      exact .inr ⟨this, fin⟩
include hR in
theorem FR_nodup0 : ((rr (res 0 R) ++ rr (res 2 R))).Nodup := by
  have one : ∀ m, (rr (res m R)).Nodup := fun m => by
    unfold rr
    refine List.nodup_append.mpr ⟨(prodL_nodup fun c hc => ?_).sublist List.filter_sublist, ?_, fun a ha b hb e => ?_⟩
    · obtain ⟨k, _, rfl⟩ := List.mem_map.mp hc
      exact RS_nodup k
    · split
      · decide +kernel
      · exact .nil
    · subst e
      obtain ⟨_, h2⟩ := prod_res.mp (List.mem_filter.mp ha).1
      split at hb
      · obtain ⟨_, _, _, x, hx, h4⟩ := e4_in hb
        have := h2 x hx
        omega
      · cases hb
  refine List.nodup_append.mpr ⟨one 0, one 2, fun a ha b hb e => ?_⟩
  subst e
  have h1 := ((rr_mem hR).mp ha).1
  have h2 := ((rr_mem hR).mp hb).1
  match R, hR.1, a, h1, h2 with
  | x :: R, _, [], h1, _ => exact h1.elim
  | x :: R, _, y :: a, h1, h2 =>
    have := h1.1
    have := h2.1
    omega
include hR in
theorem FR_asc : (FR R).Pairwise fun a b => ltR a b = true := asc_of ((FR_nodup0 hR).sublist List.filter_sublist)
/-! ## the nearest rows by the rows alike -/
def duL (R : List Int) (l : List (List Int)) : List (List Int) := (l.map fun a => half (add R a)).mergeSort (leL ltR)
variable {p : List Int} (hp : R = smul 2 p)
include hR hp in
theorem due_eq {l : List (List Int)} (hn : l.Nodup) (hl : ∀ a, a ∈ l ↔ Cl R a ∧ mulS a a = 4 * lst p) : duL R l = NR p := by
  have h8 := p8 hR hp
  have key : ∀ {a}, Cl R a → ∃ h, Lat h ∧ add R a = smul 2 h ∧ half (add R a) = h ∧ neg a = less R h 2 := fun {a} hc => by
    obtain ⟨h, hh, e1, e2⟩ := Cl.at hR (Cl.neg hR hc)
    rw [less_neg1] at e1
    exact ⟨h, hh, e1, by rw [e1, half_smul], e2⟩
  have nd : (l.map fun a => half (add R a)).Nodup := map_nodup hn fun a ha b hb e => by
    obtain ⟨ca, _⟩ := (hl a).mp ha
    obtain ⟨cb, _⟩ := (hl b).mp hb
    obtain ⟨h, hh, e1, e2, _⟩ := key ca
    obtain ⟨k, hk, f1, f2, _⟩ := key cb
    have : h = k := by rw [← e2, ← f2]; exact e
    exact add_inj (p := R) (by rw [ca.1.1, hR.1]) (by rw [cb.1.1, hR.1]) (by rw [e1, f1, this])
  refine asc_uniq tot_row (asc_of nd) (NR_asc h8) fun w => ?_
  unfold duL
  rw [(List.mergeSort_perm _ _).mem_iff, NR_iff h8]
  constructor
  · intro h
    obtain ⟨a, ha, rfl⟩ := List.mem_map.mp h
    obtain ⟨c, e⟩ := (hl a).mp ha
    obtain ⟨h, hh, _, e2, e3⟩ := key c
    rw [e2]
    refine ⟨hh, ?_⟩
    have := Cl.dst hR hp (w := h)
    rw [← e3, mulS_neg, mulS_neg', e] at this
    omega
  · rintro ⟨hw, hd⟩
    have c := Cl.neg hR (Cl.of hR hw)
    refine List.mem_map.mpr ⟨neg (less R w 2), (hl _).mpr ⟨c, ?_⟩, ?_⟩
    · rw [mulS_neg, mulS_neg', Cl.dst hR hp, hd]; omega
    · have : add R (neg (less R w 2)) = smul 2 w := by
        rw [← less_neg1, neg_neg, less_back1 (by rw [hR.1, hw.1])]
      show half (add R (neg (less R w 2))) = w
      rw [this, half_smul]
end
end Pf

set_option Elab.async false
set_option linter.all false
set_option maxRecDepth 100000
set_option maxHeartbeats 4000000
namespace Pf
open PySem PySem.Spec PyProof.Rows L2

/-! ## plain evaluation, further -/
theorem any_bls {α : Type} (l : List α) (p : α → Bool) : gAny [.lst (l.map fun a => D.bl (p a))] = some (.bl (l.any p)) := by
  have e : (l.map fun a => D.bl (p a)) = (l.map p).map D.bl := by rw [List.map_map]; rfl
  show (blsOf _).map (fun ns : List Bool => D.bl (ns.any id)) = _
  rw [e, blsOf_map]
  show some (D.bl ((l.map p).any id)) = _
  rw [List.any_map]
  rfl
theorem ne_int (a b : Int) : gNe (.int a) (.int b) = some (.bl (!decide (a = b))) := emb_int.gNe (by decide) a b
theorem eq_int (a b : Int) : gEq (.int a) (.int b) = some (.bl (decide (a = b))) := emb_int.gEq (by decide) a b
theorem tup_eta2 (f : List Int → D) : True := trivial
theorem sl_take (l : List D) (k : Nat) : gSl (.lst l) none (some (k : Int)) = some (.lst (l.take k)) := by
  show some (D.lst (cutD l none (some (k : Int)))) = _
  unfold cutD
  rw [HT.sIx_nat]
  show some (D.lst ((l.drop 0).take (min k l.length - 0))) = _
  rw [List.drop_zero, Nat.sub_zero]
  congr 2
  by_cases h : k ≤ l.length
  · rw [Nat.min_eq_left h]
  · rw [Nat.min_eq_right (by omega), List.take_of_length_le (Nat.le_refl _), List.take_of_length_le (by omega)]
theorem sl_drop (l : List D) (k : Nat) : gSl (.lst l) (some (k : Int)) none = some (.lst (l.drop k)) := by
  show some (D.lst (cutD l (some (k : Int)) none)) = _
  unfold cutD
  rw [HT.sIx_nat]
  show some (D.lst ((l.drop (min k l.length)).take (l.length - min k l.length))) = _
  congr 2
  by_cases h : k ≤ l.length
  · rw [Nat.min_eq_left h, List.take_of_length_le (by rw [List.length_drop]; omega)]
  · rw [Nat.min_eq_right (by omega), List.drop_of_length_le (Nat.le_refl _), List.drop_of_length_le (by omega), List.take_nil]
theorem min1_is {ns : List Int} {k : Int} (hk : k ∈ ns) (h : ∀ j ∈ ns, k ≤ j) : gMin1 [row ns] = some (.int k) := by
  show (intsOf (ns.map D.int)).bind (fun ns => (minL ns).map D.int) = _
  rw [intsOf_map]
  show (minL ns).map D.int = _
  cases e : minL ns with
  | none =>
    cases ns with
    | nil => cases hk
    | cons a l => cases e
  | some j => rw [minL_iff e hk h]; rfl
/-- a loop that may return -/
theorem for_find {α : Type} {T : Tg} {B : SS} {e : α → D} {φ : Fd} (good : α → Bool) (out : α → D) (Inv : En → Prop) : ∀ (xs : List α) {ρ : En}, Inv ρ → (∀ x ∈ xs, ∀ ρ, Inv ρ → ∃ ρ1, T (e x) ρ = some ρ1 ∧ (good x = true → B ρ1 φ = .rt (out x) φ) ∧ (good x = false → ∃ ρ2, (B ρ1 φ = .nx ρ2 φ) ∧ Inv ρ2)) →
    (xs.all (fun x => !good x) = true → ∃ ρ', forGo T B (xs.map e) ρ φ = .nx ρ' φ ∧ Inv ρ') ∧ (xs.all (fun x => !good x) = false → ∃ x ∈ xs, good x = true ∧ forGo T B (xs.map e) ρ φ = .rt (out x) φ)
  | [], ρ, h0, _ => ⟨fun _ => ⟨ρ, rfl, h0⟩, fun h => by cases h⟩
  | x :: xs, ρ, h0, hs => by
    obtain ⟨ρ1, h1, h2, h3⟩ := hs x List.mem_cons_self ρ h0
    cases hg : good x with
    | true =>
      refine ⟨fun h => ?_, fun _ => ⟨x, List.mem_cons_self, hg, ?_⟩⟩
      · rw [List.all_cons, hg] at h; cases h
      · rw [List.map_cons]; unfold forGo; rw [h1]; simp only [h2 hg]
    | false =>
      obtain ⟨ρ2, h4, h5⟩ := h3 hg
      have ih := for_find good out Inv xs h5 fun y hy => hs y (List.mem_cons_of_mem _ hy)
      have step : forGo T B ((x :: xs).map e) ρ φ = forGo T B (xs.map e) ρ2 φ := by
        rw [List.map_cons]
        conv => lhs; unfold forGo
        rw [h1]
        simp only [h4]
      refine ⟨fun h => ?_, fun h => ?_⟩
      · rw [List.all_cons, hg, Bool.not_false, Bool.true_and] at h
        obtain ⟨ρ', e1, e2⟩ := ih.1 h
        exact ⟨ρ', by rw [step]; exact e1, e2⟩
      · rw [List.all_cons, hg, Bool.not_false, Bool.true_and] at h
        obtain ⟨y, hy, g, e1⟩ := ih.2 h
        exact ⟨y, List.mem_cons_of_mem _ hy, g, by rw [step]; exact e1⟩
/-! ## rows of the program -/
theorem f_less {r s : List Int} (φ : Fd) (hl : r.length ≤ 1000) : F_row_less [row r, row s] φ = .ok (row (less r s 1)) φ := by
  refine run_ret ?_
  rw [lcm_ok (r.zip s) _ (fun p => D.int (p.1 - p.2)) (zip_rows (two_ok (v_ok rfl) (v_ok rfl))) (zip_len hl) fun p hp => ⟨_, rfl, bin_ok (v_ok rfl) (v_ok rfl) rfl⟩]
  have : (r.zip s).map (fun p => D.int (p.1 - p.2)) = (less r s 1).map D.int := by
    unfold less
    rw [← zip_map, List.map_map]
    refine List.map_congr_left fun p _ => ?_
    show D.int (p.1 - p.2) = D.int (p.1 - 1 * p.2)
    rw [Int.one_mul]
  rw [this]
  rfl
theorem f_square {r : List Int} (φ : Fd) (hr : ∀ x ∈ r, x.natAbs ≤ 1000000) (hl : r.length ≤ 1000) : F_row_square [row r] φ = .ok (.int (dot r r)) φ :=
  run_ret (call_ok (two_ok (v_ok rfl) (v_ok rfl)) (f_product φ hr hl))
def fk (h : List Int) : D := if h.any (fun a => !decide ((a - h.headD 0).fmod 2 = 0)) then .int 8 else if !decide (h.sum.fmod 4 = 0) then .int 9 else .non
theorem f_fk {h : List Int} (φ : Fd) (hl : h.length = 8) : F_fault_of_kind [row h] φ = .ok (fk h) φ := by
  have hd : gIx (row h) (.int 0) = some (.int (h.headD 0)) := by
    match h, hl with
    | a :: t, _ => exact gIx_row (k := 0) rfl
  have e1 : bTru (eCB gAny (aCons (eLc (iSeq (eVar 0)) (tgN 1) bYes (eBin gNe (eBin gMod (eBin gSub (eVar 1) (eBin gIx (eVar 0) (eInt 0))) (eInt 2)) (eInt 0)) [1]) aNil)) [some (row h), none] φ = .ok (h.any fun a => !decide ((a - h.headD 0).fmod 2 = 0)) φ := by
    refine trub_ok (cb1_ok (lcm_ok h D.int (fun a => D.bl (!decide ((a - h.headD 0).fmod 2 = 0))) (seq_l (v_ok rfl)) (size_le (by omega)) fun a _ => ⟨_, rfl, bin_ok (bin_ok (bin_ok (v_ok rfl) (bin_ok (v_ok rfl) rfl hd) rfl) rfl (gMod_ok (by decide))) rfl (ne_int _ _)⟩) (any_bls h _))
  have e2 : bCmp gNe (eBin gMod (eCB gSum (aCons (eVar 0) aNil)) (eInt 4)) (eInt 0) [some (row h), none] φ = .ok (!decide (h.sum.fmod 4 = 0)) φ := cmp_ok (bin_ok (cb1_ok (v_ok rfl) (gSum_ints h)) rfl (gMod_ok (by decide))) rfl (ne_int _ _)
  unfold fk
  by_cases q1 : h.any (fun a => !decide ((a - h.headD 0).fmod 2 = 0)) = true
  · rw [if_pos q1]
    exact run_rt (seq_rt (if_yes (e1.trans (by rw [q1])) (seq_rt (ret_ok rfl))))
  · rw [if_neg q1]
    rw [Bool.not_eq_true] at q1
    by_cases q2 : (!decide (h.sum.fmod 4 = 0)) = true
    · rw [if_pos q2]
      exact run_rt (seq_nx (if_skip (e1.trans (by rw [q1]))) (seq_rt (if_yes (e2.trans (by rw [q2])) (seq_rt (ret_ok rfl)))))
    · rw [if_neg q2]
      rw [Bool.not_eq_true] at q2
      exact run_rt (seq_nx (if_skip (e1.trans (by rw [q1]))) (seq_nx (if_skip (e2.trans (by rw [q2]))) (seq_rt (ret_ok rfl))))
theorem fk_is {h : List Int} (hl : h.length = 8) : gIs (fk h) .non = some (.bl (decide (Lat h))) := by
  by_cases q : Lat h
  · have h1 : h.any (fun a => !decide ((a - h.headD 0).fmod 2 = 0)) = false := by
      rw [List.any_eq_false]
      intro a ha
      have e : (a - h.headD 0).fmod 2 = 0 := by rw [Int.fmod_eq_emod_of_nonneg _ (by decide)]; exact q.2.1 a ha
      rw [e]
      decide
    have h2 : (!decide (h.sum.fmod 4 = 0)) = false := by
      have := q.2.2
      rw [Int.fmod_eq_emod_of_nonneg _ (by decide)]
      simp [this]
    unfold fk
    rw [h1, h2, decide_eq_true q]
    rfl
  · rw [decide_eq_false q]
    unfold fk
    by_cases q1 : h.any (fun a => !decide ((a - h.headD 0).fmod 2 = 0)) = true
    · rw [if_pos q1]; rfl
    · rw [if_neg q1]
      by_cases q2 : (!decide (h.sum.fmod 4 = 0)) = true
      · rw [if_pos q2]; rfl
      · refine absurd ⟨hl, fun a ha => ?_, ?_⟩ q
        · rw [Bool.not_eq_true, List.any_eq_false] at q1
          have := q1 a ha
          rw [Int.fmod_eq_emod_of_nonneg _ (by decide)] at this
          simpa using this
        · rw [Int.fmod_eq_emod_of_nonneg _ (by decide)] at q2
          simpa using q2
theorem fk_lat {h : List Int} (q : Lat h) : fk h = .non := by
  have := fk_is q.1
  rw [decide_eq_true q] at this
  unfold fk at this ⊢
  split
  · rename_i h1; rw [if_pos h1] at this; cases this
  · rename_i h1
    rw [if_neg h1] at this
    split
    · rename_i h2; rw [if_pos h2] at this; cases this
    · rfl
theorem half_ints (t : List Int) : (t.map fun a => D.int (a.fdiv 2)) = (half t).map D.int := by
  unfold half
  rw [List.map_map]
  rfl
theorem f_twice {t : List Int} (φ : Fd) (hl : t.length = 8) : F_is_twice [row t] φ = .ok (.bl (twb t)) φ := by
  have e1 : bTru (eCB gAny (aCons (eLc (iSeq (eVar 0)) (tgN 1) bYes (eBin gNe (eBin gMod (eVar 1) (eInt 2)) (eInt 0)) [1]) aNil)) [some (row t), none] φ = .ok (t.any fun a => !decide (a.fmod 2 = 0)) φ :=
    trub_ok (cb1_ok (lcm_ok t D.int (fun a => D.bl (!decide (a.fmod 2 = 0))) (seq_l (v_ok rfl)) (size_le (by omega)) fun a _ => ⟨_, rfl, bin_ok (bin_ok (v_ok rfl) rfl (gMod_ok (by decide))) rfl (ne_int _ _)⟩) (any_bls t _))
  have e2 : eLc (iSeq (eVar 0)) (tgN 1) bYes (eBin gDiv (eVar 1) (eInt 2)) [1] [some (row t), none] φ = .ok (row (half t)) φ :=
    Eq.trans (b := O.ok (D.lst (t.map fun a => D.int (a.fdiv 2))) φ) (lcm_ok t D.int (fun a => D.int (a.fdiv 2)) (seq_l (v_ok rfl)) (size_le (by omega)) fun a _ => ⟨_, rfl, bin_ok (v_ok rfl) rfl (gDiv_ok (by decide) (by decide))⟩) (by rw [half_ints]; rfl)
  have hh : (half t).length = 8 := by unfold half; rw [List.length_map, hl]
  unfold twb
  by_cases q : t.any (fun a => !decide (a.fmod 2 = 0)) = true
  · have : t.all (fun a => a.fmod 2 == 0) = false := by
      rw [List.any_eq_true] at q
      obtain ⟨a, ha, hq⟩ := q
      rw [List.all_eq_false]
      exact ⟨a, ha, by simpa using hq⟩
    rw [this]
    exact run_rt (seq_rt (if_yes (e1.trans (by rw [q])) (seq_rt (ret_ok rfl))))
  · rw [Bool.not_eq_true] at q
    have ha : t.all (fun a => a.fmod 2 == 0) = true := by
      rw [List.any_eq_false] at q
      rw [List.all_eq_true]
      intro a ha
      simpa using q a ha
    rw [ha, Bool.true_and]
    exact run_rt (seq_nx (if_skip (e1.trans (by rw [q]))) (seq_rt (ret_ok (bin_ok (call_ok (one_ok e2) (f_fk φ hh)) rfl (fk_is hh)))))
theorem sq_zip : ∀ (p w : List Int), (List.zipWith (fun a b => (a - b) * (a - b)) p w).sum = dst p w
  | [], w => by cases w <;> rfl
  | _ :: _, [] => rfl
  | a :: p, b :: w => by rw [List.zipWith_cons_cons, List.sum_cons, sq_zip p w, dst_cons]
theorem f_dist {p w : List Int} (φ : Fd) (hp : ∀ x ∈ p, x.natAbs ≤ 1000000) (hw : ∀ x ∈ w, x.natAbs ≤ 1000000) (hl : p.length ≤ 1000) : F_distance [row p, row w] φ = .ok (.int (dst p w)) φ := by
  refine run_ret (cb1_ok (lcm_ok (p.zip w) _ (fun q => D.int ((q.1 - q.2) * (q.1 - q.2))) (zip_rows (two_ok (v_ok rfl) (v_ok rfl))) (zip_len hl) fun q hq => ⟨_, rfl, bin_ok (bin_ok (v_ok rfl) (v_ok rfl) rfl) (bin_ok (v_ok rfl) (v_ok rfl) rfl) (gMul_ok' ?_)⟩) ?_)
  · have h1 := hp q.1 (List.of_mem_zip hq).1
    have h2 := hw q.2 (List.of_mem_zip hq).2
    show (q.1 - q.2).natAbs < _
    omega
  · have : (p.zip w).map (fun q => D.int ((q.1 - q.2) * (q.1 - q.2))) = (List.zipWith (fun a b => (a - b) * (a - b)) p w).map D.int := by
      rw [← zip_map, List.map_map]; rfl
    rw [this, ← sq_zip]
    exact gSum_ints _
theorem f_steps (φ : Fd) : F_steps_of_two [] φ = .ok (rws (stepsL 8)) φ := by kernel_rfl
/-! ## the nearest rows of a kind -/
def loose (o : Int) (p : List Int) : List Nat := (List.range 8).filter fun i => !decide ((p.getD i 0 - o).fmod 2 = 0)
def bump (r : List Int) (k : Nat) (s : Int) : List Int := r.take k ++ [r.getD k 0 + s] ++ r.drop (k + 1)
def gkr (L : List Nat) (rs : List (List Int)) : List (List Int) := L.foldl (fun rs k => rs.flatMap fun r => [bump r k (-1), bump r k 1]) rs
theorem bump_at (r suf : List Int) (a s : Int) : bump (r ++ a :: suf) r.length s = r ++ [a + s] ++ suf := by
  unfold bump
  have h1 : (r ++ a :: suf).take r.length = r := by rw [List.take_left]
  have h2 : (r ++ a :: suf).getD r.length 0 = a := by rw [List.getD_eq_getElem?_getD, List.getElem?_append_right (Nat.le_refl _), Nat.sub_self]; rfl
  have h3 : (r ++ a :: suf).drop (r.length + 1) = suf := by
    rw [List.drop_append, List.drop_of_length_le (by omega), List.nil_append, Nat.add_sub_cancel_left]
    rfl
  rw [h1, h2, h3]
theorem map_flat : ∀ Rs : List (List Int), Rs.map (fun r => r ++ []) = Rs.flatMap fun r => [r ++ []]
  | [] => rfl
  | r :: Rs => by rw [List.map_cons, List.flatMap_cons, map_flat Rs]; rfl
theorem gkr_go {o : Int} : ∀ (suf : List Int) (n : Nat) (Rs : List (List Int)), (∀ r ∈ Rs, r.length = n) → ∀ (at' : Nat → Int), (∀ i < suf.length, at' (n + i) = suf.getD i 0) →
    gkr ((List.range' n suf.length).filter fun i => !decide ((at' i - o).fmod 2 = 0)) (Rs.map fun r => r ++ suf) = Rs.flatMap fun r => (prodL (suf.map (ch o))).map fun w => r ++ w
  | [], n, Rs, _, _, _ => map_flat Rs
  | a :: suf, n, Rs, hR, at', hat => by
    have ha : at' n = a := by have := hat 0 (by simp); simpa using this
    have hat' : ∀ i < suf.length, at' (n + 1 + i) = suf.getD i 0 := fun i hi => by
      have := hat (i + 1) (by rw [List.length_cons]; omega)
      rw [show n + 1 + i = n + (i + 1) by omega, this]
      rfl
    rw [List.length_cons, List.range'_succ]
    have hf : (a - o).fmod 2 = (a - o) % 2 := Int.fmod_eq_emod_of_nonneg _ (by decide)
    by_cases q : (a - o) % 2 = 0
    · rw [List.filter_cons_of_neg (by rw [ha, hf]; simp [q])]
      have e1 : (Rs.map fun r => r ++ a :: suf) = (Rs.map fun r => r ++ [a]).map fun r => r ++ suf := by
        rw [List.map_map]
        refine List.map_congr_left fun r _ => ?_
        simp
      rw [e1, gkr_go suf (n + 1) (Rs.map fun r => r ++ [a]) (fun r hr => by
        obtain ⟨s, hs, rfl⟩ := List.mem_map.mp hr
        rw [List.length_append, hR s hs]; rfl) at' hat', List.map_cons, ch_yes q, List.flatMap_map]
      have e2 : prodL ([a] :: suf.map (ch o)) = (prodL (suf.map (ch o))).map fun w => a :: w := by
        show [a].flatMap _ = _
        rw [List.flatMap_cons, List.flatMap_nil, List.append_nil]
      rw [e2]
      congr 1
      funext r
      rw [List.map_map]
      refine List.map_congr_left fun w _ => ?_
      simp
    · rw [List.filter_cons_of_pos (by rw [ha, hf]; simp [q])]
      have e1 : gkr (n :: (List.range' (n + 1) suf.length).filter fun i => !decide ((at' i - o).fmod 2 = 0)) (Rs.map fun r => r ++ a :: suf) = gkr ((List.range' (n + 1) suf.length).filter fun i => !decide ((at' i - o).fmod 2 = 0)) ((Rs.map fun r => r ++ a :: suf).flatMap fun r => [bump r n (-1), bump r n 1]) := rfl
      have e2 : ((Rs.map fun r => r ++ a :: suf).flatMap fun r => [bump r n (-1), bump r n 1]) = (Rs.flatMap fun r => [r ++ [a + -1], r ++ [a + 1]]).map fun r => r ++ suf := by
        rw [List.flatMap_map, List.map_flatMap]
        have : ∀ r ∈ Rs, [bump (r ++ a :: suf) n (-1), bump (r ++ a :: suf) n 1] = [r ++ [a + -1], r ++ [a + 1]].map fun r => r ++ suf := fun r hr => by
          rw [← hR r hr, bump_at, bump_at]
          rfl
        clear e1 hat' hat ha hR
        induction Rs with
        | nil => rfl
        | cons r Rs ih => rw [List.flatMap_cons, List.flatMap_cons, this r List.mem_cons_self, ih fun s hs => this s (List.mem_cons_of_mem _ hs)]
      rw [e1, e2, gkr_go suf (n + 1) (Rs.flatMap fun r => [r ++ [a + -1], r ++ [a + 1]]) (fun r hr => by
        obtain ⟨s, hs, hr⟩ := List.mem_flatMap.mp hr
        rcases List.mem_cons.mp hr with rfl | hr
        · rw [List.length_append, hR s hs]; rfl
        · rw [List.mem_singleton.mp hr, List.length_append, hR s hs]; rfl) at' hat', List.map_cons, ch_no q, List.flatMap_assoc]
      have e3 : prodL ([a + -1, a + 1] :: suf.map (ch o)) = (prodL (suf.map (ch o))).map (fun w => (a + -1) :: w) ++ (prodL (suf.map (ch o))).map fun w => (a + 1) :: w := by
        show [a + -1, a + 1].flatMap _ = _
        rw [List.flatMap_cons, List.flatMap_cons, List.flatMap_nil, List.append_nil]
      rw [e3]
      congr 1
      funext r
      rw [List.flatMap_cons, List.flatMap_cons, List.flatMap_nil, List.append_nil, List.map_append, List.map_map, List.map_map]
      congr 1
      · refine List.map_congr_left fun w _ => ?_
        simp
      · refine List.map_congr_left fun w _ => ?_
        simp
theorem gkr_prod {o : Int} {p : List Int} (hp : p.length = 8) : gkr (loose o p) [p] = prodL (p.map (ch o)) := by
  have := gkr_go (o := o) p 0 [[]] (fun r hr => by rw [List.mem_singleton.mp hr]; rfl) (fun i => p.getD i 0) (fun i _ => by rw [Nat.zero_add])
  rw [hp] at this
  unfold loose
  rw [List.range_eq_range']
  rw [show ([[]] : List (List Int)).map (fun r => r ++ p) = [p] from rfl] at this
  rw [this, List.flatMap_cons, List.flatMap_nil, List.append_nil]
  exact List.map_id' _
theorem lcn_loose {o : Int} {p : List Int} (hp : p.length = 8) : (loose o p).length = lcn o p := by
  match p, hp with
  | [a, b, c, d, e, f, g, h], _ =>
    have hf : ∀ x : Int, x.fmod 2 = x % 2 := fun x => Int.fmod_eq_emod_of_nonneg _ (by decide)
    unfold loose lcn
    rw [← List.countP_eq_length_filter]
    have : List.range 8 = [0, 1, 2, 3, 4, 5, 6, 7] := rfl
    rw [this]
    simp only [List.countP_cons, List.countP_nil, hf]
    rfl
end Pf

set_option Elab.async false
set_option linter.all false
set_option maxRecDepth 100000
set_option maxHeartbeats 4000000
namespace Pf
open PySem PySem.Spec PyProof.Rows L2

theorem sl_ok1 {ρ : En} {φ : Fd} {A B : SX} {l : List D} {k : Nat} (ha : A ρ φ = .ok (.lst l) φ) (hb : B ρ φ = .ok (.int (k : Int)) φ) : eSl A oNone (oSome B) ρ φ = .ok (.lst (l.take k)) φ := by
  unfold eSl oNone oSome
  rw [ha]
  show ((B ρ φ).bind _).bind _ = _
  rw [hb]
  show ofO (gSl (.lst l) none (some (k : Int))) φ = _
  rw [sl_take]
  rfl
theorem sl_ok2 {ρ : En} {φ : Fd} {A B : SX} {l : List D} {k : Nat} (ha : A ρ φ = .ok (.lst l) φ) (hb : B ρ φ = .ok (.int (k : Int)) φ) : eSl A (oSome B) oNone ρ φ = .ok (.lst (l.drop k)) φ := by
  unfold eSl oNone oSome
  rw [ha]
  show ((B ρ φ).bind _).bind _ = _
  rw [hb]
  show ofO (gSl (.lst l) (some (k : Int)) none) φ = _
  rw [sl_drop]
  rfl
theorem forGo_nx {T : Tg} {B : SS} {d : D} {ds : List D} {ρ ρ1 ρ2 : En} {φ φ2 : Fd} (h1 : T d ρ = some ρ1) (h2 : B ρ1 φ = .nx ρ2 φ2) : forGo T B (d :: ds) ρ φ = forGo T B ds ρ2 φ2 := by
  conv => lhs; unfold forGo
  rw [h1]
  simp only [h2]
theorem gkr_len : ∀ (L : List Nat) (rs : List (List Int)), (gkr L rs).length = 2 ^ L.length * rs.length
  | [], rs => by simp [gkr]
  | k :: L, rs => by
    show (gkr L _).length = _
    rw [gkr_len L, List.length_flatMap]
    have : (rs.map fun r => [bump r k (-1), bump r k 1].length).sum = 2 * rs.length := by
      induction rs with
      | nil => rfl
      | cons r rs ih => rw [List.map_cons, List.sum_cons, ih, List.length_cons]; simp; omega
    rw [this, List.length_cons, Nat.pow_succ, Nat.mul_assoc]
theorem bump_l8 {r : List Int} {k : Nat} {s : Int} (hr : r.length = 8) (hk : k < 8) : (bump r k s).length = 8 := by
  unfold bump
  simp
  omega
theorem gkr_l8 : ∀ (L : List Nat) (rs : List (List Int)), (∀ k ∈ L, k < 8) → (∀ r ∈ rs, r.length = 8) → ∀ r ∈ gkr L rs, r.length = 8
  | [], rs, _, h => h
  | k :: L, rs, hL, h => gkr_l8 L _ (fun j hj => hL j (List.mem_cons_of_mem _ hj)) fun r hr => by
    obtain ⟨s, hs, hr⟩ := List.mem_flatMap.mp hr
    have hk := hL k List.mem_cons_self
    rcases List.mem_cons.mp hr with rfl | hr
    · exact bump_l8 (h s hs) hk
    · rw [List.mem_singleton.mp hr]; exact bump_l8 (h s hs) hk
theorem fm2 (x : Int) : x.fmod 2 = x % 2 := Int.fmod_eq_emod_of_nonneg _ (by decide)
section
variable {p : List Int} (hp : p.length = 8)
include hp in
theorem f_kind (o : Int) (φ : Fd) : F_near_of_kind [row p, .int o] φ = .ok (rws (NK o p)) φ := by
  have hll : (loose o p).length ≤ 8 := by
    unfold loose
    exact Nat.le_trans (List.length_filter_le _ _) (by rw [List.length_range]; decide)
  have hL : ∀ k ∈ loose o p, k < 8 := fun k hk => List.mem_range.mp (List.mem_filter.mp hk).1
  have e2 : eLc (iRg1 (aCons (eInt 8) aNil)) (tgN 4) (bCmp gNe (eBin gMod (eBin gSub (eBin gIx (eVar 0) (eVar 4)) (eVar 1)) (eInt 2)) (eInt 0)) (eVar 4) [4] [some (row p), some (.int o), none, none, none, none, none, none] φ = .ok (.lst ((loose o p).map fun k : Nat => D.int (k : Int))) φ :=
    lc_ok (List.range 8) (fun k : Nat => D.int (k : Int)) (fun i => !decide ((p.getD i 0 - o).fmod 2 = 0)) (fun k : Nat => D.int (k : Int)) rg8 (by decide) fun k hk => ⟨_, rfl, cmp_ok (bin_ok (bin_ok (bin_ok (v_ok rfl) (v_ok rfl) (gIx_row (getD_get hp hk))) (v_ok rfl) rfl) rfl (gMod_ok (by decide))) rfl (ne_int _ _), fun _ => v_ok rfl⟩
  have e3 : eLst (aCons (eCB gList (aCons (eVar 0) aNil)) aNil) [some (row p), some (.int o), some (.lst ((loose o p).map fun k : Nat => D.int (k : Int))), none, none, none, none, none] φ = .ok (rws [p]) φ :=
    lst_ok (one_ok (cb1_ok (v_ok rfl) rfl)) (size_le (show 1 ≤ 1000000 by decide))
  have hsum : ∀ ρ : En, ρ[0]? = some (some (row p)) → bCmp gNe (eBin gMod (eCB gSum (aCons (eVar 0) aNil)) (eInt 4)) (eInt 0) ρ φ = .ok (!decide (p.sum % 4 = 0)) φ := fun ρ h =>
    (cmp_ok (bin_ok (cb1_ok (v_ok h) (gSum_ints p)) rfl (gMod_ok (by decide))) rfl (ne_int _ _)).trans (by rw [fm4])
  have htr : ∀ ρ : En, ρ[2]? = some (some (.lst ((loose o p).map fun k : Nat => D.int (k : Int)))) → bNot (bTru (eVar 2)) ρ φ = .ok (decide (lcn o p = 0)) φ := fun ρ h => by
    refine (not_ok (tru_ok (v_ok h) rfl)).trans ?_
    congr 1
    rw [Bool.not_not, ← lcn_loose hp, Bool.eq_iff_iff, List.isEmpty_iff, decide_eq_true_eq, List.map_eq_nil_iff, List.length_eq_zero_iff]
  refine run_rt (seq_nx (set_ok e2) (seq_nx (set_ok e3) ?_))
  have t1 : ∀ ρ : En, ρ[0]? = some (some (row p)) → ρ[2]? = some (some (.lst ((loose o p).map fun k : Nat => D.int (k : Int)))) → bAnd (bNot (bTru (eVar 2))) (bCmp gNe (eBin gMod (eCB gSum (aCons (eVar 0) aNil)) (eInt 4)) (eInt 0)) ρ φ = .ok (decide (lcn o p = 0) && !decide (p.sum % 4 = 0)) φ := fun ρ h h2 => and_ok (htr ρ h2) fun _ => hsum ρ h
  unfold NK
  by_cases q : lcn o p = 0 ∧ p.sum % 4 ≠ 0
  · rw [if_pos q]
    refine seq_rt (if_yes ((t1 _ rfl rfl).trans (by rw [decide_eq_true q.1, decide_eq_false q.2]; rfl)) (seq_rt (ret_ok ?_)))
    refine Eq.trans (b := O.ok (D.lst ((stepsL 8).map fun t => row (add p t))) φ) (lcm_ok (stepsL 8) row (fun t => row (add p t)) (seq_l (call0_ok (f_steps φ))) (by decide) fun t ht => ⟨_, rfl, call_ok (two_ok (v_ok rfl) (v_ok rfl)) (f_sum φ (by rw [hp]; decide))⟩) ?_
    unfold rws
    rw [List.map_map]
    rfl
  · rw [if_neg q]
    have tf : (decide (lcn o p = 0) && !decide (p.sum % 4 = 0)) = false := by
      by_cases q1 : lcn o p = 0
      · by_cases q2 : p.sum % 4 = 0
        · simp [q2]
        · exact absurd ⟨q1, q2⟩ q
      · simp [q1]
    obtain ⟨ρ', l1, y4, rfl⟩ := for_inv (T := tgN 4) (φ := φ) (e := fun k : Nat => D.int (k : Int)) (B := (sSeq (sSet 3 (eLc2 (iSeq (eVar 3)) (tgN 6) bYes (iSeq (eTup (aCons (eUn gNeg (eInt 1)) (aCons (eInt 1) aNil)))) (tgN 7) bYes (eBin gAdd (eBin gAdd (eSl (eVar 6) oNone (oSome (eVar 4))) (eLst (aCons (eBin gAdd (eBin gIx (eVar 6) (eVar 4)) (eVar 7)) aNil))) (eSl (eVar 6) (oSome (eBin gAdd (eVar 4) (eInt 1))) oNone)) [6, 7] [7])) sNil))
      (fun pre ρ => ∃ y4, ρ = [some (row p), some (.int o), some (.lst ((loose o p).map fun k : Nat => D.int (k : Int))), some (rws (gkr pre [p])), y4, none, none, none]) (loose o p) [] (ρ := [some (row p), some (.int o), some (.lst ((loose o p).map fun k : Nat => D.int (k : Int))), some (rws [p]), none, none, none, none]) ⟨none, rfl⟩ (by
      rintro pre k post ρ hpp ⟨y4, rfl⟩
      have hp' : loose o p = pre ++ k :: post := hpp
      have hpre : ∀ j ∈ pre, j < 8 := fun j hj => hL j (by rw [hp']; simp [hj])
      have hk : k < 8 := hL k (by rw [hp']; simp)
      have hpl : pre.length + 1 ≤ 8 := by rw [hp', List.length_append, List.length_cons] at hll; omega
      have h8 := gkr_l8 pre [p] hpre fun r hr => by rw [List.mem_singleton.mp hr]; exact hp
      have es : ((gkr pre [p]).flatMap fun r => ((([-1, 1] : List Int)).filter fun _ => true).map fun s => row (bump r k s)) = (gkr (pre ++ [k]) [p]).map row := by
        unfold gkr
        rw [List.foldl_append]
        show _ = (List.flatMap _ (pre.foldl _ [p])).map row
        rw [List.map_flatMap]
        rfl
      have hlen : (gkr (pre ++ [k]) [p]).length ≤ 256 := by
        rw [gkr_len, List.length_append]
        have : 2 ^ (pre.length + [k].length) ≤ 2 ^ 8 := Nat.pow_le_pow_right (by decide) hpl
        simp only [List.length_cons, List.length_nil] at this ⊢
        omega
      refine ⟨_, rfl, _, .inl (seq_one (set_ok (lc2_ok (gkr pre [p]) row (fun _ => ([-1, 1] : List Int)) D.int (fun _ _ => true) (fun r s => row (bump r k s)) (seq_l (v_ok rfl)) ?_ fun r hr => ⟨_, rfl, rfl, fun s hs => ⟨_, rfl, rfl, fun _ => ?_⟩⟩))), some (D.int (k : Int)), ?_⟩
      · rw [es, List.length_map]
        exact size_le (Nat.le_trans hlen (by decide))
      · have hr8 := h8 r hr
        refine Eq.trans (b := O.ok (D.lst (((r.map D.int).take k ++ [D.int (r.getD k 0 + s)]) ++ (r.map D.int).drop (k + 1))) φ) (bin_ok (bin_ok (sl_ok1 (l := r.map D.int) (v_ok rfl) (v_ok rfl)) (lst_ok (one_ok (bin_ok (bin_ok (v_ok rfl) (v_ok rfl) (gIx_row (getD_get hr8 (List.mem_range.mpr hk)))) (v_ok rfl) rfl)) (size_le (show 1 ≤ 1000000 by decide))) (gAdd_l (by simp; omega))) (sl_ok2 (l := r.map D.int) (k := k + 1) (v_ok rfl) (bin_ok (v_ok rfl) rfl rfl)) (gAdd_l (by simp; omega))) ?_
        unfold bump row
        simp only [List.map_append, List.map_take, List.map_drop, List.map_cons, List.map_nil]
      · rw [es]
        rfl)
    rw [List.nil_append] at l1
    have hl8 : ∀ r ∈ gkr (loose o p) [p], r.length = 8 := gkr_l8 _ _ hL fun r hr => by rw [List.mem_singleton.mp hr]; exact hp
    refine seq_nx (if_skip ((t1 _ rfl rfl).trans (by rw [tf]))) (seq_nx (for_ok (seq_l (v_ok rfl)) l1) (seq_rt (ret_ok ?_)))
    refine Eq.trans (b := O.ok (D.lst (((gkr (loose o p) [p]).filter fun w => decide (w.sum.fmod 4 = 0)).map row)) φ) (lc_ok (gkr (loose o p) [p]) row (fun w => decide (w.sum.fmod 4 = 0)) row (seq_l (v_ok rfl)) ?_ fun w hw => ⟨_, rfl, cmp_ok (bin_ok (cb1_ok (v_ok rfl) (gSum_ints w)) rfl (gMod_ok (by decide))) rfl (eq_int _ _), fun _ => v_ok rfl⟩) ?_
    · rw [gkr_len]
      have : 2 ^ (loose o p).length ≤ 2 ^ 8 := Nat.pow_le_pow_right (by decide) hll
      exact size_le (by simp only [List.length_cons, List.length_nil]; omega)
    · rw [gkr_prod hp]
      simp only [fm4]
      rfl
/-! ## the nearest rows -/
theorem bd_dst : ∀ {p w : List Int} {n : Nat}, p.length = w.length → dst p w ≤ 8 → (∀ x ∈ p, x.natAbs ≤ n) → ∀ x ∈ w, x.natAbs ≤ n + 2
  | [], [], _, _, _, _ => fun x hx => by cases hx
  | a :: p, b :: w, n, hl, h, hp => by
    rw [dst_cons] at h
    have h1 := sq_nn (a - b)
    have h2 := dst_nn p w
    obtain ⟨s1, s2⟩ := sq_le (a := a - b) (by omega)
    have ha := hp a List.mem_cons_self
    intro x hx
    rcases List.mem_cons.mp hx with rfl | hx
    · omega
    · exact bd_dst (Nat.succ.inj hl) (by omega) (fun y hy => hp y (List.mem_cons_of_mem _ hy)) x hx
include hp in
theorem dK_le8 (o : Int) : dK o p ≤ 8 := by
  unfold dK
  have : lcn o p ≤ p.length := List.countP_le_length
  rw [hp] at this
  split <;> omega
include hp in
theorem nall_bd {n : Nat} (hb : ∀ x ∈ p, x.natAbs ≤ n) {w : List Int} (hw : w ∈ nall p) : ∀ x ∈ w, x.natAbs ≤ n + 2 := by
  have hd : dst p w ≤ 8 := by
    rcases List.mem_append.mp hw with h | h
    · rw [(NK_in hp h).2.2]; exact dK_le8 hp 0
    · rw [(NK_in hp h).2.2]; exact dK_le8 hp 1
  exact bd_dst (by rw [hp, (nall_in hp hw).1.1]) hd hb
include hp in
theorem nall_len : (nall p).length ≤ 600 := by
  unfold nall
  rw [List.length_append, NK_len hp, NK_len hp]
  have h : ∀ o, lcn o p ≤ 8 := fun o => by
    have : lcn o p ≤ p.length := List.countP_le_length
    rwa [hp] at this
  have b : ∀ o, (if lcn o p = 0 then (if p.sum % 4 = 0 then 1 else 16) else 2 ^ (lcn o p - 1)) ≤ 256 := fun o => by
    split
    · split <;> decide
    · exact Nat.pow_le_pow_right (n := 2) (by decide) (show lcn o p - 1 ≤ 8 by have := h o; omega)
  have := b 0
  have := b 1
  omega
include hp in
theorem f_near {n : Nat} (hn : n ≤ 1000) (hb : ∀ x ∈ p, x.natAbs ≤ n) (φ : Fd) : F_near_rows [row p] φ = .ok (rws (NR p)) φ := by
  have hnl := nall_len hp
  have pb : ∀ x ∈ p, x.natAbs ≤ 1000000 := fun x hx => by have := hb x hx; omega
  have wb : ∀ w ∈ nall p, ∀ x ∈ w, x.natAbs ≤ 1000000 := fun w hw x hx => by have := nall_bd hp hb hw x hx; omega
  have e1 : eBin gAdd (eCall F_near_of_kind (aCons (eVar 0) (aCons (eInt 0) aNil))) (eCall F_near_of_kind (aCons (eVar 0) (aCons (eInt 1) aNil))) [some (row p), none, none, none] φ = .ok (rws (nall p)) φ := by
    refine bin_ok (call_ok (two_ok (v_ok rfl) rfl) (f_kind hp 0 φ)) (call_ok (two_ok (v_ok rfl) rfl) (f_kind hp 1 φ)) ?_
    refine (gAdd_l (by
      unfold nall at hnl
      rw [List.length_append] at hnl
      rw [List.length_map, List.length_map]
      omega)).trans ?_
    rw [← List.map_append]
    rfl
  have e2 : eCB gMin1 (aCons (eLc (iSeq (eVar 1)) (tgN 3) bYes (eCall F_distance (aCons (eVar 0) (aCons (eVar 3) aNil))) [3]) aNil) [some (row p), some (rws (nall p)), none, none] φ = .ok (.int (lst p)) φ := by
    refine cb1_ok (d := row ((nall p).map fun w => dst p w)) (Eq.trans (b := O.ok (D.lst ((nall p).map fun w => D.int (dst p w))) φ) (lcm_ok (nall p) row (fun w => D.int (dst p w)) (seq_l (v_ok rfl)) (size_le (by omega)) fun w hw => ⟨_, rfl, call_ok (two_ok (v_ok rfl) (v_ok rfl)) (f_dist φ pb (wb w hw) (by rw [hp]; decide))⟩) ?_) (min1_is ?_ fun j hj => ?_)
    · unfold row
      rw [List.map_map]
      rfl
    · obtain ⟨w, hw, e⟩ := lst_is hp
      exact List.mem_map.mpr ⟨w, hw, e⟩
    · obtain ⟨w, hw, rfl⟩ := List.mem_map.mp hj
      exact (nall_in hp hw).2
  refine run_rt (seq_nx (set_ok e1) (seq_nx (set_ok e2) (seq_rt (ret_ok (cb1_ok (lc_ok (nall p) row (fun w => decide (dst p w = lst p)) row (seq_l (v_ok rfl)) (size_le (by omega)) fun w hw => ⟨_, rfl, cmp_ok (call_ok (two_ok (v_ok rfl) (v_ok rfl)) (f_dist φ pb (wb w hw) (by rw [hp]; decide))) (v_ok rfl) (eq_int _ _), fun _ => v_ok rfl⟩) ((emb_row.gSorted (by decide) _).trans rfl))))))
include hp in
theorem NR_ne : ∃ w l, NR p = w :: l := by
  have := NR_pos hp
  match h : NR p with
  | [] => rw [h] at this; cases this
  | w :: l => exact ⟨w, l, rfl⟩
include hp in
theorem f_nearest {n : Nat} (hn : n ≤ 1000) (hb : ∀ x ∈ p, x.natAbs ≤ n) (φ : Fd) {w : List Int} {l : List (List Int)} (h : NR p = w :: l) : F_nearest_row [row p] φ = .ok (row w) φ :=
  run_ret (bin_ok (call_ok (one_ok (v_ok rfl)) (f_near hp hn hb φ)) rfl (gIx_lst (k := 0) (by rw [h]; rfl)))
include hp in
theorem f_isnear {n : Nat} (hn : n ≤ 1000) (hb : ∀ x ∈ p, x.natAbs ≤ n) {w : List Int} (hw : w.length = 8) (hwb : ∀ x ∈ w, x.natAbs ≤ n) (φ : Fd) :
    ((∀ r ∈ RT, dst p w ≤ dst p (add w r)) → F_is_nearest [row p, row w] φ = .ok (.tup [.str "nearest"]) φ) ∧ ((¬ ∀ r ∈ RT, dst p w ≤ dst p (add w r)) → ∃ r, F_is_nearest [row p, row w] φ = .ok (.tup [.str "nearer", row r]) φ) := by
  have pb : ∀ x ∈ p, x.natAbs ≤ 1000000 := fun x hx => by have := hb x hx; omega
  have wb : ∀ x ∈ w, x.natAbs ≤ 1000000 := fun x hx => by have := hwb x hx; omega
  have ab : ∀ r ∈ RT, ∀ x ∈ add w r, x.natAbs ≤ 1000000 := fun r hr => by
    have : ∀ {w r : List Int}, (∀ x ∈ w, x.natAbs ≤ n) → (∀ x ∈ r, x.natAbs ≤ 2) → ∀ x ∈ add w r, x.natAbs ≤ 1000000 := by
      intro w
      induction w with
      | nil => intro r _ _ x hx; cases r <;> cases hx
      | cons a w ih =>
        intro r h1 h2 x hx
        cases r with
        | nil => cases hx
        | cons b r =>
          rcases List.mem_cons.mp (show x ∈ (a + b) :: add w r from hx) with rfl | hx
          · have := h1 a List.mem_cons_self
            have := h2 b List.mem_cons_self
            omega
          · exact ih (fun y hy => h1 y (List.mem_cons_of_mem _ hy)) (fun y hy => h2 y (List.mem_cons_of_mem _ hy)) x hx
    exact this hwb fun x hx => by have := (RT_row r hr).2 x hx; omega
  have ds := f_dist φ pb wb (by rw [hp]; decide)
  have F := for_find (T := tgN 3) (φ := φ) (e := row) (B := (sSeq (sIf (bCmp gLtA (eCall F_distance (aCons (eVar 0) (aCons (eCall F_row_sum (aCons (eVar 1) (aCons (eVar 3) aNil))) aNil))) (eVar 2)) (sSeq (sRet (eTup (aCons (eStr "nearer") (aCons (eVar 3) aNil)))) sNil) sNil) sNil))
    (fun r => decide (dst p (add w r) < dst p w)) (fun r => .tup [.str "nearer", row r]) (fun ρ => ∃ y3, ρ = [some (row p), some (row w), some (.int (dst p w)), y3]) RT (ρ := [some (row p), some (row w), some (.int (dst p w)), none]) ⟨none, rfl⟩ (by
    rintro r hr ρ ⟨y3, rfl⟩
    have t : bCmp gLtA (eCall F_distance (aCons (eVar 0) (aCons (eCall F_row_sum (aCons (eVar 1) (aCons (eVar 3) aNil))) aNil))) (eVar 2) [some (row p), some (row w), some (.int (dst p w)), some (row r)] φ = .ok (decide (dst p (add w r) < dst p w)) φ :=
      cmp_ok (call_ok (two_ok (v_ok rfl) (call_ok (two_ok (v_ok rfl) (v_ok rfl)) (f_sum φ (by rw [hw]; decide)))) (f_dist φ pb (ab r hr) (by rw [hp]; decide))) (v_ok rfl) rfl
    refine ⟨_, rfl, fun hg => seq_rt (if_yes (t.trans (by rw [hg])) (seq_rt (ret_ok (tup_ok (two_ok rfl (v_ok rfl)) (size_le (show 2 ≤ 1000000 by decide)))))), fun hg => ⟨_, seq_one (if_skip (t.trans (by rw [hg]))), some (row r), rfl⟩⟩)
  constructor
  · intro h
    obtain ⟨ρ', l1, y3, rfl⟩ := F.1 (List.all_eq_true.mpr fun r hr => by
      have := h r hr
      simp only [Bool.not_eq_true', decide_eq_false_iff_not]
      omega)
    exact run_rt (seq_nx (set_ok (call_ok (two_ok (v_ok rfl) (v_ok rfl)) ds)) (seq_nx (for_ok (seq_l (call0_ok (f_roots φ))) l1) (seq_rt (ret_ok (tup_ok (one_ok rfl) (size_le (show 1 ≤ 1000000 by decide)))))))
  · intro h
    have : RT.all (fun r => !decide (dst p (add w r) < dst p w)) = false := by
      cases q : RT.all fun r => !decide (dst p (add w r) < dst p w) with
      | false => rfl
      | true =>
        refine absurd (fun r hr => ?_) h
        have := List.all_eq_true.mp q r hr
        simp only [Bool.not_eq_true', decide_eq_false_iff_not] at this
        omega
    obtain ⟨r, _, _, l1⟩ := F.2 this
    exact ⟨r, run_rt (seq_nx (set_ok (call_ok (two_ok (v_ok rfl) (v_ok rfl)) ds)) (seq_rt (for_ok (seq_l (call0_ok (f_roots φ))) l1)))⟩
end
end Pf

set_option Elab.async false
set_option linter.all false
set_option maxRecDepth 100000
set_option maxHeartbeats 4000000
namespace Pf
open PySem PySem.Spec PyProof.Rows L2

/-! ## frames -/
def tupI (c : List Int) : D := .tup (c.map .int)
def flg (rs : List (List Int)) (cs : List (List Int)) : List (List Int) := cs.foldl (fun rs c => rs.flatMap fun r => c.map fun x => r ++ [x]) rs
theorem flg_prod : ∀ (cs : List (List Int)) (rs : List (List Int)), flg rs cs = rs.flatMap fun r => (prodL cs).map fun w => r ++ w
  | [], rs => by
    show rs = rs.flatMap fun r => [r ++ []]
    rw [← map_flat]
    have : (fun r : List Int => r ++ []) = id := by funext r; simp
    rw [this, List.map_id]
  | c :: cs, rs => by
    show flg (rs.flatMap fun r => c.map fun x => r ++ [x]) cs = _
    rw [flg_prod cs, List.flatMap_assoc]
    congr 1
    funext r
    show (c.map fun x => r ++ [x]).flatMap _ = (c.flatMap fun x => (prodL cs).map fun w => x :: w).map _
    rw [List.flatMap_map, List.map_flatMap]
    congr 1
    funext x
    rw [List.map_map]
    refine List.map_congr_left fun w _ => ?_
    simp
theorem flg_all (cs : List (List Int)) : flg [[]] cs = prodL cs := by
  rw [flg_prod, List.flatMap_cons, List.flatMap_nil, List.append_nil]
  exact List.map_id' _
theorem flg_len : ∀ (cs : List (List Int)) (rs : List (List Int)), (∀ c ∈ cs, c.length ≤ 2) → (flg rs cs).length ≤ 2 ^ cs.length * rs.length
  | [], rs, _ => by show rs.length ≤ _; simp
  | c :: cs, rs, h => by
    have h1 := flg_len cs (rs.flatMap fun r => c.map fun x => r ++ [x]) fun d hd => h d (List.mem_cons_of_mem _ hd)
    have h2 : (rs.flatMap fun r => c.map fun x => r ++ [x]).length ≤ 2 * rs.length := by
      rw [List.length_flatMap]
      have hc := h c List.mem_cons_self
      clear h1
      induction rs with
      | nil => simp
      | cons r rs ih => rw [List.map_cons, List.sum_cons, List.length_map, List.length_cons]; omega
    show (flg _ cs).length ≤ _
    rw [List.length_cons, Nat.pow_succ, Nat.mul_assoc]
    exact Nat.le_trans h1 (Nat.mul_le_mul_left _ h2)
theorem flg_pl : ∀ (cs : List (List Int)) (rs : List (List Int)) (n : Nat), (∀ r ∈ rs, r.length ≤ n) → ∀ r ∈ flg rs cs, r.length ≤ n + cs.length
  | [], rs, n, h => h
  | c :: cs, rs, n, h => fun r hr => by
    have := flg_pl cs (rs.flatMap fun r => c.map fun x => r ++ [x]) (n + 1) (fun s hs => by
      obtain ⟨t, ht, hs⟩ := List.mem_flatMap.mp hs
      obtain ⟨x, _, rfl⟩ := List.mem_map.mp hs
      have := h t ht
      rw [List.length_append]
      simp
      exact this) r hr
    rw [List.length_cons]
    omega
theorem f_lists {cs : List (List Int)} (h2 : ∀ c ∈ cs, c.length ≤ 2) (h8 : cs.length ≤ 8) (φ : Fd) : F_lists_of [.lst (cs.map tupI)] φ = .ok (rws (prodL cs)) φ := by
  obtain ⟨ρ', l1, y2, rfl⟩ := for_inv (T := tgN 2) (φ := φ) (e := tupI) (B := (sSeq (sSet 1 (eLc2 (iSeq (eVar 1)) (tgN 3) bYes (iSeq (eVar 2)) (tgN 4) bYes (eBin gAdd (eVar 3) (eLst (aCons (eVar 4) aNil))) [3, 4] [4])) sNil))
    (fun pre ρ => ∃ y2, ρ = [some (.lst (cs.map tupI)), some (rws (flg [[]] pre)), y2, none, none]) cs [] (ρ := [some (.lst (cs.map tupI)), some (rws [[]]), none, none, none]) ⟨none, rfl⟩ (by
    rintro pre c post ρ hpp ⟨y2, rfl⟩
    have hp' : cs = pre ++ c :: post := hpp
    have hpre : ∀ d ∈ pre ++ [c], d.length ≤ 2 := fun d hd => h2 d (by
      rw [hp']
      rcases List.mem_append.mp hd with hd | hd
      · simp [hd]
      · rw [List.mem_singleton.mp hd]; simp)
    have hpl : (pre ++ [c]).length ≤ 8 := by rw [hp'] at h8; rw [List.length_append] at h8 ⊢; simp at h8 ⊢; omega
    have es : ((flg [[]] pre).flatMap fun r => (c.filter fun _ => true).map fun x => row (r ++ [x])) = (flg [[]] (pre ++ [c])).map row := by
      have hf : c.filter (fun _ => true) = c := List.filter_eq_self.mpr fun _ _ => rfl
      rw [hf]
      unfold flg
      rw [List.foldl_append]
      show _ = (List.flatMap _ (pre.foldl _ [[]])).map row
      rw [List.map_flatMap]
      congr 1
      funext r
      rw [List.map_map]
      rfl
    have hlen : (flg [[]] (pre ++ [c])).length ≤ 256 := by
      have := flg_len (pre ++ [c]) [[]] hpre
      have h3 : 2 ^ (pre ++ [c]).length ≤ 2 ^ 8 := Nat.pow_le_pow_right (by decide) hpl
      simp only [List.length_cons, List.length_nil] at this
      omega
    refine ⟨_, rfl, _, .inl (seq_one (set_ok (lc2_ok (flg [[]] pre) row (fun _ => c) D.int (fun _ _ => true) (fun r x => row (r ++ [x])) (seq_l (v_ok rfl)) ?_ fun r hr => ⟨_, rfl, seq_t (v_ok rfl), fun x hx => ⟨_, rfl, rfl, fun _ => bin_ok (v_ok rfl) (lst_ok (one_ok (v_ok rfl)) (size_le (show 1 ≤ 1000000 by decide))) ?_⟩⟩))), some (tupI c), ?_⟩
    · rw [es, List.length_map]
      exact size_le (Nat.le_trans hlen (by decide))
    · have := flg_pl pre [[]] 0 (fun r hr => by rw [List.mem_singleton.mp hr]; exact Nat.le_refl _) r hr
      have hpl' : pre.length ≤ 8 := by rw [List.length_append] at hpl; omega
      refine (gAdd_l (by rw [List.length_map]; show r.length + 1 ≤ 1000000; omega)).trans ?_
      unfold row
      rw [List.map_append]
      rfl
    · rw [es]
      rfl)
  rw [List.nil_append, flg_all] at l1
  exact run_rt (seq_nx (set_ok (d := rws [[]]) rfl) (seq_nx (for_ok (seq_l (v_ok rfl)) l1) (seq_rt (ret_ok (v_ok rfl)))))
def tblR : List (Int × D) := [(0, .tup [.int 0]), (1, .tup [.int (-3), .int 1]), (2, .tup [.int (-2), .int 2]), (3, .tup [.int (-1), .int 3])]
theorem gd_RS {k : Int} (h0 : 0 ≤ k) (h1 : k < 4) : gdF tblR (.int k) = some (tupI (RS k)) := by
  rcases (show k = 0 ∨ k = 1 ∨ k = 2 ∨ k = 3 by omega) with rfl | rfl | rfl | rfl <;> rfl
def e4c (k : Nat) : List (List Int) := [(-4 : Int), 4].map fun x => List.replicate k 0 ++ [x] ++ List.replicate (7 - k) 0
theorem e4c_all : (List.range 8).flatMap e4c = e4L 8 := by decide +kernel
theorem gix_ok {tbl : List (Int × D)} {ρ : En} {φ : Fd} {B : SX} {k d : D} (hb : B ρ φ = .ok k φ) (h : gdF tbl k = some d) : eGIx tbl B ρ φ = .ok d φ := by
  unfold eGIx
  rw [hb]
  show ofO (gdF tbl k) φ = _
  rw [h]
  rfl
theorem gMul_rep (x : Int) (n : Nat) (hn : n ≤ 1000) : gMul (.lst [.int x]) (.int (n : Int)) = some (row (List.replicate n x)) := by
  show (if -9223372036854775808 ≤ (n : Int) ∧ (n : Int) < 9223372036854775808 ∧ [D.int x].length * (n : Int).toNat ≤ sizeLine then some (D.lst (List.replicate (n : Int).toNat [D.int x]).flatten) else none) = _
  rw [if_pos ⟨by omega, by omega, size_le (by simp; omega)⟩, Int.toNat_natCast]
  unfold row
  congr 2
  clear hn
  induction n with
  | zero => rfl
  | succ n ih => rw [List.replicate_succ, List.flatten_cons, ih, List.replicate_succ]; rfl
theorem RS_len (k : Int) : (RS k).length ≤ 2 := by
  unfold RS
  split
  · decide
  · split
    · decide
    · split <;> decide
theorem RS_bd {k : Int} : ∀ x ∈ RS k, x.natAbs ≤ 3 := by
  unfold RS
  split
  · decide
  · split
    · decide
    · split <;> decide
theorem prodL_bd : ∀ {q : List Int} {w : List Int}, w ∈ prodL (q.map RS) → w.length = q.length ∧ ∀ x ∈ w, x.natAbs ≤ 3
  | [], w, h => by rw [List.mem_singleton.mp (show w ∈ [[]] from h)]; exact ⟨rfl, fun x hx => by cases hx⟩
  | k :: q, w, h => by
    obtain ⟨x, hx, v, hv, rfl⟩ := prodL_cons.mp h
    obtain ⟨h1, h2⟩ := prodL_bd hv
    refine ⟨by rw [List.length_cons, List.length_cons, h1], fun y hy => ?_⟩
    rcases List.mem_cons.mp hy with rfl | hy
    · exact RS_bd _ hx
    · exact h2 y hy
theorem prodL_len {q : List Int} (h8 : q.length ≤ 8) : (prodL (q.map RS)).length ≤ 256 := by
  rw [← flg_all]
  have := flg_len (q.map RS) [[]] fun c hc => by
    obtain ⟨k, _, rfl⟩ := List.mem_map.mp hc
    exact RS_len k
  have h3 : 2 ^ (q.map RS).length ≤ 2 ^ 8 := Nat.pow_le_pow_right (by decide) (by rw [List.length_map]; exact h8)
  simp only [List.length_cons, List.length_nil] at this
  omega
theorem rr_len {q : List Int} (h8 : q.length ≤ 8) : (rr q).length ≤ 300 := by
  unfold rr
  rw [List.length_append]
  have h1 := List.length_filter_le (fun w => decide (dot w w = 4)) (prodL (q.map RS))
  have h2 := prodL_len h8
  have h3 : (if q.sum = 0 then e4L 8 else []).length ≤ 16 := by split <;> decide +kernel
  omega
theorem f_rr {q : List Int} (h8 : q.length = 8) (hq : ∀ k ∈ q, 0 ≤ k ∧ k < 4) (φ : Fd) : F_rows_with_residues [row q] φ = .ok (rws (rr q)) φ := by
  obtain ⟨P, hP⟩ : ∃ P, P = (prodL (q.map RS)).filter fun w => decide (dot w w = 4) := ⟨_, rfl⟩
  have hPl : P.length ≤ 256 := by rw [hP]; exact Nat.le_trans (List.length_filter_le _ _) (prodL_len (by omega))
  have e1 : eLc (iSeq (eCall F_lists_of (aCons (eLc (iSeq (eVar 0)) (tgN 4) bYes (eGIx [(0, .tup [.int 0]), (1, .tup [.int (-3), .int 1]), (2, .tup [.int (-2), .int 2]), (3, .tup [.int (-1), .int 3])] (eVar 4)) [4]) aNil))) (tgN 3) (bCmp gEq (eCall F_row_square (aCons (eVar 3) aNil)) (eInt 4)) (eVar 3) [3] [some (row q), none, none, none, none, none] φ = .ok (rws P) φ := by
    rw [hP]
    refine lc_ok (prodL (q.map RS)) row (fun w => decide (dot w w = 4)) row (seq_l (call_ok (one_ok (d := .lst ((q.map RS).map tupI)) ?_) (f_lists (fun c hc => ?_) (by rw [List.length_map, h8]; decide) φ))) (size_le (Nat.le_trans (prodL_len (by omega)) (by decide))) fun w hw => ⟨_, rfl, cmp_ok (call_ok (one_ok (v_ok rfl)) (f_square φ (fun x hx => by have := (prodL_bd hw).2 x hx; omega) (by rw [(prodL_bd hw).1, h8]; decide))) rfl (eq_int _ _), fun _ => v_ok rfl⟩
    · refine Eq.trans (b := O.ok (D.lst (q.map fun k => tupI (RS k))) φ) (lcm_ok q D.int (fun k => tupI (RS k)) (seq_l (v_ok rfl)) (size_le (by omega)) fun k hk => ⟨_, rfl, gix_ok (v_ok rfl) (gd_RS (hq k hk).1 (hq k hk).2)⟩) ?_
      rw [List.map_map]
      rfl
    · obtain ⟨k, _, rfl⟩ := List.mem_map.mp hc
      exact RS_len k
  have t1 : bCmp gEq (eCB gSum (aCons (eVar 0) aNil)) (eInt 0) [some (row q), some (rws P), none, none, none, none] φ = .ok (decide (q.sum = 0)) φ := cmp_ok (cb1_ok (v_ok rfl) (gSum_ints q)) rfl (eq_int _ _)
  obtain ⟨ρ', l1, y2, hy2⟩ := for_inv (T := tgN 2) (φ := φ) (e := fun k : Nat => D.int (k : Int)) (B := (sSeq (sMut 1 gExt (eLc (iSeq (eTup (aCons (eUn gNeg (eInt 4)) (aCons (eInt 4) aNil)))) (tgN 5) bYes (eBin gAdd (eBin gAdd (eBin gMul (eLst (aCons (eInt 0) aNil)) (eVar 2)) (eLst (aCons (eVar 5) aNil))) (eBin gMul (eLst (aCons (eInt 0) aNil)) (eBin gSub (eBin gSub (eInt 8) (eInt 1)) (eVar 2)))) [5])) sNil))
    (fun pre ρ => ∃ y2, ρ = [some (row q), some (rws (P ++ pre.flatMap e4c)), y2, none, none, none]) (List.range 8) [] (ρ := [some (row q), some (rws P), none, none, none, none]) ⟨none, by rw [List.flatMap_nil, List.append_nil]⟩ (by
    rintro pre k post ρ hpp ⟨y2, rfl⟩
    have hk : k < 8 := List.mem_range.mp (by rw [show List.range 8 = pre ++ k :: post from hpp]; simp)
    have hpl : pre.length ≤ 8 := by
      have := congrArg List.length hpp
      rw [List.nil_append, List.length_range, List.length_append] at this
      omega
    have hfl : (pre.flatMap e4c).length = 2 * pre.length := by
      clear hpp hpl
      induction pre with
      | nil => rfl
      | cons j pre ih => rw [List.flatMap_cons, List.length_append, ih, List.length_cons]; show 2 + _ = _; omega
    have e5 : eLc (iSeq (eTup (aCons (eUn gNeg (eInt 4)) (aCons (eInt 4) aNil)))) (tgN 5) bYes (eBin gAdd (eBin gAdd (eBin gMul (eLst (aCons (eInt 0) aNil)) (eVar 2)) (eLst (aCons (eVar 5) aNil))) (eBin gMul (eLst (aCons (eInt 0) aNil)) (eBin gSub (eBin gSub (eInt 8) (eInt 1)) (eVar 2)))) [5] [some (row q), some (rws (P ++ pre.flatMap e4c)), some (D.int (k : Int)), none, none, none] φ = .ok (.lst ((e4c k).map row)) φ := by
      refine Eq.trans (b := O.ok (D.lst (([(-4 : Int), 4]).map fun x => row (List.replicate k 0 ++ [x] ++ List.replicate (7 - k) 0))) φ) (lcm_ok ([(-4 : Int), 4]) D.int (fun x => row (List.replicate k 0 ++ [x] ++ List.replicate (7 - k) 0)) rfl (by decide) fun x hx => ⟨_, rfl, ?_⟩) ?_
      · refine bin_ok (bin_ok (bin_ok (d := .lst [.int 0]) (z := row (List.replicate k 0)) rfl (v_ok rfl) (gMul_rep 0 k (by omega))) (lst_ok (one_ok (v_ok rfl)) (size_le (show 1 ≤ 1000000 by decide))) (z := row (List.replicate k 0 ++ [x])) ?_) (bin_ok (d := .lst [.int 0]) (e := .int ((7 - k : Nat) : Int)) (z := row (List.replicate (7 - k) 0)) rfl (bin_ok (d := .int 7) rfl (v_ok rfl) ?_) (gMul_rep 0 (7 - k) (by omega))) ?_
        · refine (gAdd_l (by simp; omega)).trans ?_
          unfold row
          rw [List.map_append]
          rfl
        · show some (D.int (7 - (k : Int))) = _
          rw [show (7 : Int) - (k : Int) = ((7 - k : Nat) : Int) by omega]
        · refine (gAdd_l (by simp; omega)).trans ?_
          unfold row
          rw [List.map_append (l₁ := List.replicate k 0 ++ [x])]
      · unfold e4c
        rw [List.map_map]
        rfl
    refine ⟨_, rfl, _, .inl (seq_one (ext_ok (l := (P ++ pre.flatMap e4c).map row) rfl e5 ?_)), some (D.int (k : Int)), ?_⟩
    · rw [List.length_map, List.length_map, List.length_append, hfl]
      show _ + 2 ≤ _
      exact size_le (by omega)
    · rw [List.flatMap_append, ← List.append_assoc]
      unfold rws
      rw [List.map_append (l₁ := P ++ pre.flatMap e4c), List.flatMap_cons, List.flatMap_nil, List.append_nil]
      rfl)
  rw [List.nil_append, e4c_all] at hy2
  unfold rr
  rw [← hP]
  by_cases s0 : q.sum = 0
  · rw [if_pos s0]
    subst hy2
    exact run_rt (seq_nx (set_ok e1) (seq_nx (if_yes (t1.trans (by rw [decide_eq_true s0])) (seq_one (for_ok (rg1_ok (n := 8) rfl (by decide)) l1))) (seq_rt (ret_ok (v_ok rfl)))))
  · rw [if_neg s0, List.append_nil]
    exact run_rt (seq_nx (set_ok e1) (seq_nx (if_skip (t1.trans (by rw [decide_eq_false s0]))) (seq_rt (ret_ok (v_ok rfl)))))
theorem rr_bd {q w : List Int} (h8 : q.length = 8) (hw : w ∈ rr q) : w.length = 8 := by
  rcases List.mem_append.mp hw with h | h
  · rw [(prodL_bd (List.mem_filter.mp h).1).1, h8]
  · split at h
    · exact (e4_in h).1
    · cases h
theorem f_frame {R : List Int} (h8 : R.length = 8) (φ : Fd) : F_frame_of [row R] φ = .ok (rws (FR R)) φ := by
  have hres : ∀ m : Int, (res m R).length = 8 ∧ ∀ k ∈ res m R, 0 ≤ k ∧ k < 4 := fun m => ⟨by unfold res; rw [List.length_map, h8], fun k hk => by
    obtain ⟨x, _, rfl⟩ := List.mem_map.mp hk
    rw [fm4]
    exact ⟨Int.emod_nonneg _ (by decide), Int.emod_lt_of_pos _ (by decide)⟩⟩
  have arg : ∀ (m : Int) (l : D), eLc (iSeq (eVar 0)) (tgN 3) bYes (eBin gMod (eBin gAdd (eVar 3) (eVar 2)) (eInt 4)) [3] [some (row R), some l, some (.int m), none, none] φ = .ok (row (res m R)) φ := fun m l => by
    refine Eq.trans (b := O.ok (D.lst (R.map fun x => D.int ((x + m).fmod 4))) φ) (lcm_ok R D.int (fun x => D.int ((x + m).fmod 4)) (seq_l (v_ok rfl)) (size_le (by omega)) fun x hx => ⟨_, rfl, bin_ok (bin_ok (v_ok rfl) (v_ok rfl) rfl) rfl (gMod_ok (by decide))⟩) ?_
    unfold row res
    rw [List.map_map]
    rfl
  have l0 := rr_len (q := res 0 R) (by rw [(hres 0).1]; decide)
  have l2 := rr_len (q := res 2 R) (by rw [(hres 2).1]; decide)
  have b1 : (sSeq (sMut 1 gExt (eCall F_rows_with_residues (aCons (eLc (iSeq (eVar 0)) (tgN 3) bYes (eBin gMod (eBin gAdd (eVar 3) (eVar 2)) (eInt 4)) [3]) aNil))) sNil) [some (row R), some (rws []), some (.int 0), none, none] φ = .nx [some (row R), some (rws (rr (res 0 R))), some (.int 0), none, none] φ :=
    seq_one ((ext_ok (l := []) rfl (call_ok (one_ok (arg 0 _)) (f_rr (hres 0).1 (hres 0).2 φ)) (size_le (by rw [List.length_map]; simp; omega))).trans rfl)
  have b2 : (sSeq (sMut 1 gExt (eCall F_rows_with_residues (aCons (eLc (iSeq (eVar 0)) (tgN 3) bYes (eBin gMod (eBin gAdd (eVar 3) (eVar 2)) (eInt 4)) [3]) aNil))) sNil) [some (row R), some (rws (rr (res 0 R))), some (.int 2), none, none] φ = .nx [some (row R), some (rws (rr (res 0 R) ++ rr (res 2 R))), some (.int 2), none, none] φ := by
    refine seq_one ((ext_ok (l := (rr (res 0 R)).map row) rfl (call_ok (one_ok (arg 2 _)) (f_rr (hres 2).1 (hres 2).2 φ)) (size_le (by rw [List.length_map, List.length_map]; omega))).trans ?_)
    unfold rws
    rw [List.map_append]
    rfl
  have lp : forGo (tgN 2) (sSeq (sMut 1 gExt (eCall F_rows_with_residues (aCons (eLc (iSeq (eVar 0)) (tgN 3) bYes (eBin gMod (eBin gAdd (eVar 3) (eVar 2)) (eInt 4)) [3]) aNil))) sNil) [.int 0, .int 2] [some (row R), some (rws []), none, none, none] φ = .nx [some (row R), some (rws (rr (res 0 R) ++ rr (res 2 R))), some (.int 2), none, none] φ :=
    (forGo_nx (ρ1 := [some (row R), some (rws []), some (.int 0), none, none]) rfl b1).trans ((forGo_nx (ρ1 := [some (row R), some (rws (rr (res 0 R))), some (.int 2), none, none]) rfl b2).trans rfl)
  refine run_rt (seq_nx (set_ok (d := rws []) rfl) (seq_nx (for_ok (ds := [.int 0, .int 2]) rfl lp) (seq_rt (ret_ok (cb1_ok (lc_ok (rr (res 0 R) ++ rr (res 2 R)) row (fun a => twb (less R a 1)) row (seq_l (v_ok rfl)) (size_le (by rw [List.length_append]; omega)) fun w hw => ⟨_, rfl, trub_ok (call_ok (one_ok (call_ok (two_ok (v_ok rfl) (v_ok rfl)) (f_less φ (by rw [h8]; decide)))) (f_twice φ ?_)), fun _ => v_ok rfl⟩) ((emb_row.gSorted (by decide) _).trans rfl))))))
  have : w.length = 8 := by
    rcases List.mem_append.mp hw with h | h
    · exact rr_bd (hres 0).1 h
    · exact rr_bd (hres 2).1 h
  exact less_l8 h8 this
/-! ## rests by two -/
def RL (R : List Int) : List (List Int) := RT.filter fun r => twb (less R r 1)
def restD (R : List Int) : D := if twb R then .tup [.str "nothing"] else match (RL R).getLast? with
  | some r => .tup [.str "pair", row r]
  | none => .tup [.str "frame", rws (FR R)]
theorem f_rest {R : List Int} (h8 : R.length = 8) (φ : Fd) : F_rest_by_two [row R] φ = .ok (restD R) φ := by
  have e1 : eLc (iSeq (eCall0 F_all_roots)) (tgN 2) (bTru (eCall F_is_twice (aCons (eCall F_row_less (aCons (eVar 0) (aCons (eVar 2) aNil))) aNil))) (eVar 2) [2] [some (row R), none, none] φ = .ok (rws (RL R)) φ :=
    lc_ok RT row (fun r => twb (less R r 1)) row (seq_l (call0_ok (f_roots φ))) (size_le (by rw [RT_len]; decide)) fun r hr => ⟨_, rfl, trub_ok (call_ok (one_ok (call_ok (two_ok (v_ok rfl) (v_ok rfl)) (f_less φ (by rw [h8]; decide)))) (f_twice φ (less_l8 h8 (RT_l8 hr)))), fun _ => v_ok rfl⟩
  have t0 : bTru (eCall F_is_twice (aCons (eVar 0) aNil)) [some (row R), none, none] φ = .ok (twb R) φ := trub_ok (call_ok (one_ok (v_ok rfl)) (f_twice φ h8))
  unfold restD
  cases hR : twb R with
  | true => rw [if_pos rfl]; exact run_rt (seq_rt (if_yes (t0.trans (by rw [hR])) (seq_rt (ret_ok (tup_ok (one_ok rfl) (size_le (show 1 ≤ 1000000 by decide)))))))
  | false =>
    rw [if_neg (by decide)]
    have t1 : bTru (eVar 1) [some (row R), some (rws (RL R)), none] φ = .ok (!(RL R).isEmpty) φ := tru_ok (v_ok rfl) (by
      show some (!((RL R).map row).isEmpty) = _
      cases RL R <;> rfl)
    cases hl : (RL R).getLast? with
    | some r =>
      have ne : RL R ≠ [] := fun e => by rw [e] at hl; cases hl
      have ix : gIx (rws (RL R)) (.int (-1)) = some (row r) := by
        obtain ⟨l, hl2⟩ := List.getLast?_eq_some_iff.mp hl
        unfold rws
        rw [hl2, List.map_append]
        exact gIx_last (l.map row) (row r)
      refine run_rt (seq_nx (if_skip (t0.trans (by rw [hR]))) (seq_nx (set_ok e1) (seq_rt (if_yes (t1.trans (by
        cases h : RL R with
        | nil => exact absurd h ne
        | cons _ _ => rfl)) (seq_rt (ret_ok (tup_ok (two_ok rfl (bin_ok (v_ok rfl) (un_ok rfl rfl) ix)) (size_le (show 2 ≤ 1000000 by decide)))))))))
    | none =>
      have e : RL R = [] := List.getLast?_eq_none_iff.mp hl
      refine run_rt (seq_nx (if_skip (t0.trans (by rw [hR]))) (seq_nx (set_ok e1) (seq_nx (if_skip (t1.trans (by rw [e]; rfl))) (seq_rt (ret_ok (tup_ok (two_ok rfl (call_ok (one_ok (v_ok rfl)) (f_frame h8 φ))) (size_le (show 2 ≤ 1000000 by decide))))))))
theorem f_sum2 {R : List Int} (φ : Fd) (hb : ∀ x ∈ R, x.natAbs ≤ 1000000) (h8 : R.length = 8) : F_sum_by_two [row R] φ = .ok (.int (((dot R R).fdiv 2).fmod 2)) φ :=
  run_ret (bin_ok (bin_ok (call_ok (one_ok (v_ok rfl)) (f_square φ hb (by rw [h8]; decide))) rfl (gDiv_ok (by decide) (by decide))) rfl (gMod_ok (by decide)))
end Pf

set_option Elab.async false
set_option linter.all false
set_option maxRecDepth 100000
set_option maxHeartbeats 4000000
namespace Pf
open PySem PySem.Spec PyProof.Rows L2

theorem ne_self {d : D} (h : d.shp = true) : gNe d d = some (.bl false) := by
  unfold gNe
  rw [h]
  have hc : d.py.canLay0 = true := by
    unfold D.shp SeqAt.shaped at h
    rw [Bool.and_eq_true] at h
    exact h.1
  show some (D.bl (!PyData.eqv d.py d.py)) = _
  rw [PySem.SeqAt.eqv_refl d.py hc]
  rfl
/-! ## the law's own -/
def LR2 : List (List Int) := (((List.range 256).map fun code => (List.range 8).map fun k => 1 - 2 * (((code / 2 ^ k) % 2 : Nat) : Int)).filter fun r => r.sum.fmod 4 == 0) ++ EV
theorem RT_lr2 : RT.Perm LR2 := by
  have : List.isPerm RT LR2 = true := by decide +kernel
  exact List.isPerm_iff.mp this
theorem f_lroots (φ : Fd) : F__law_roots [] φ = .ok (rws RT) φ := by
  refine run_rt (seq_nx (set_ok rfl) (seq_env (by kernel_rfl) (seq_env (by kernel_rfl) (seq_rt (ret_ok (cb1_ok (v_ok (d := rws LR2) (by kernel_rfl)) ?_))))))
  unfold rws
  rw [emb_row.gSorted (by decide), sort_is tot_row (lt_le tot_row RT_lt) RT_lr2]
theorem f_faultroot {r : List Int} (hr : r ∈ RT) (φ : Fd) : F_fault_of_row [row r] φ = .ok .non φ := by
  have h8 := RT_l8 hr
  have en : ∀ (l : List Int) (i : Nat), enumD i (l.map D.int) = (l.zipIdx i).map fun q => D.tup [.int (q.2 : Int), .int q.1] := by
    intro l
    induction l with
    | nil => intro i; rfl
    | cons a l ih => intro i; show D.tup [.int (i : Int), .int a] :: enumD (i + 1) (l.map D.int) = _; rw [ih, List.zipIdx_cons]; rfl
  obtain ⟨ρ', l1, y1, y2, rfl⟩ := for_inv (T := tgT 2 (tsCons (tgN 1) (tsCons (tgN 2) tsNil))) (φ := φ) (e := fun q : Int × Nat => D.tup [.int (q.2 : Int), .int q.1]) (B := (sSeq (sIf (bNot (bVal (eCh gLe gLe (eUn gNeg (eInt 99)) (eVar 2) (eInt 99)))) (sSeq (sRet (eVar 1)) sNil) sNil) sNil))
    (fun pre ρ => ∃ y1 y2, ρ = [some (row r), y1, y2]) (r.zipIdx 0) [] (ρ := [some (row r), none, none]) ⟨none, none, rfl⟩ (by
    rintro pre q post ρ hp ⟨y1, y2, rfl⟩
    have hq : q ∈ r.zipIdx 0 := by rw [show r.zipIdx 0 = pre ++ q :: post from hp]; simp
    have hm : q.1 ∈ r := by
      have := List.mem_zipIdx' hq
      rw [this.2]
      exact List.getElem_mem _
    have hb := (RT_row r hr).2 q.1 hm
    refine ⟨_, rfl, _, .inl (seq_one (if_skip (not_ok (b := true) ?_))), some (.int (q.2 : Int)), some (.int q.1), rfl⟩
    show bVal _ [some (row r), some (.int (q.2 : Int)), some (.int q.1)] φ = _
    have e : eCh gLe gLe (eUn gNeg (eInt 99)) (eVar 2) (eInt 99) [some (row r), some (.int (q.2 : Int)), some (.int q.1)] φ = .ok (.bl true) φ := by
      have g1 : gLe (.int (-99)) (.int q.1) = some (.bl true) := by show some (D.bl (decide (-99 ≤ q.1))) = _; rw [decide_eq_true (by omega)]
      have g2 : gLe (.int q.1) (.int 99) = some (.bl true) := by show some (D.bl (decide (q.1 ≤ 99))) = _; rw [decide_eq_true (by omega)]
      show (match gLe (.int (-99)) (.int q.1) with | some (.bl true) => _ | some (.bl false) => _ | _ => _) = _
      rw [g1]
      show ofO (gLe (.int q.1) (.int 99)) φ = _
      rw [g2]
      rfl
    unfold bVal
    rw [e]
    rfl)
  have it : iEn (aCons (eVar 0) aNil) [some (row r), none, none] φ = .ok ((r.zipIdx 0).map fun q : Int × Nat => D.tup [.int (q.2 : Int), .int q.1]) φ := by
    unfold iEn
    rw [bind_ok' (one_ok (v_ok rfl))]
    show O.ok (enumD 0 (r.map D.int)) φ = _
    rw [en]
  have t8 : bCmp gNe (eCB gLen (aCons (eVar 0) aNil)) (eInt 8) [some (row r), none, none] φ = .ok false φ := cmp_ok (d := .int ((8 : Nat) : Int)) (cb1_ok (d := row r) (v_ok rfl) (sum_lens 8 _ (by rw [List.length_map]; exact h8))) rfl (ne_len (a := 8) (b := 8) rfl)
  exact run_rt (seq_nx (if_skip t8) (seq_nx (for_ok it l1) (seq_rt (ret_ok (call_ok (one_ok (v_ok rfl)) ((f_fk φ h8).trans (by rw [fk_lat (RT_lat hr)])))))))
theorem f_isroot {r : List Int} (hr : r ∈ RT) (φ : Fd) : F_is_root [row r] φ = .ok (.bl true) φ := by
  have hd : dot r r = 2 := by have := (RT_lat hr).dot (RT_lat hr); rw [RT_sq hr] at this; omega
  refine run_ret (eand_yes (bin_ok (call_ok (one_ok (v_ok rfl)) (f_faultroot hr φ)) rfl rfl) (bin_ok (call_ok (one_ok (v_ok rfl)) (f_square φ (RT_rw hr).2 (by rw [RT_l8 hr]; decide))) rfl ?_))
  rw [hd]
  exact (eq_int 2 2).trans (by simp)
theorem f_lprod {r s : List Int} (φ : Fd) (hr : Rw r) (hs : Rw s) : F__law_product [row r, row s] φ = .ok (.int (dot r s)) φ := by
  refine run_ret (bin_ok (cb1_ok (lcm_ok (List.range 8) _ (fun k => D.int (r.getD k 0 * s.getD k 0)) rg8 (by decide) fun k hk => ⟨_, rfl, bin_ok (bin_ok (v_ok rfl) (v_ok rfl) (gIx_row (getD_get hr.1 hk))) (bin_ok (v_ok rfl) (v_ok rfl) (gIx_row (getD_get hs.1 hk))) (gMul_ok' ?_)⟩) ?_) rfl (gDiv_ok (by decide) (by decide)))
  · have := getD_bd hr hk
    omega
  · have : (List.range 8).map (fun k => D.int (r.getD k 0 * s.getD k 0)) = (List.zipWith (fun a b => a * b) r s).map D.int := by
      rw [← range8 hr.1 hs.1, List.map_map]; rfl
    rw [this]
    exact gSum_ints _
/-- a row made by its places -/
theorem placed {r s : List Int} (hr : r.length = 8) (hs : s.length = 8) (f : Int → Int → Int) : (List.range 8).map (fun k => D.int (f (r.getD k 0) (s.getD k 0))) = (List.zipWith f r s).map D.int := by
  rw [← range8 hr hs f, List.map_map]; rfl
theorem zeros_ok {ρ : En} {φ : Fd} {i : Nat} : eLc (iRg1 (aCons (eInt 8) aNil)) (tgN i) bYes (eInt 0) [i] ρ φ = .ok (row z8) φ ∨ True := .inr trivial
def bd (n : Nat) (x : List Int) : Prop := ∀ a ∈ x, a.natAbs ≤ n
theorem add_bd : ∀ {x y : List Int} {n m : Nat}, bd n x → bd m y → bd (n + m) (add x y)
  | [], y, _, _, _, _ => by intro a ha; cases y <;> cases ha
  | _ :: _, [], _, _, _, _ => by intro a ha; cases ha
  | a :: x, b :: y, n, m, hx, hy => by
    intro c hc
    rcases List.mem_cons.mp (show c ∈ (a + b) :: add x y from hc) with rfl | hc
    · have h1 := hx a List.mem_cons_self
      have h2 := hy b List.mem_cons_self
      omega
    · exact add_bd (fun u hu => hx u (List.mem_cons_of_mem _ hu)) (fun u hu => hy u (List.mem_cons_of_mem _ hu)) c hc
theorem RT_bd {x : List Int} (h : x ∈ RT) : bd 2 x := fun a ha => by have := (RT_row x h).2 a ha; omega
theorem z8_lat' : Lat z8 := z8_lat
theorem f_lrow (φ : Fd) (m : Nat) (hm : m ≤ 1000) : ∃ L φ', F__law_row [.feed, rws RT, .int m] φ = .ok (row L) φ' ∧ Lat L ∧ bd (2 * m) L := by
  obtain ⟨ρ', φ', l1, L, y4, y5, rfl, hL, hb⟩ := for_st (T := tgN 4) (e := fun k : Nat => D.int (k : Int)) (B := (sSeq (sSet 5 (eBin gIx (eVar 1) (eCall F__law_draw (aCons (eVar 0) (aCons (eInt 240) aNil))))) (sSeq (sSet 3 (eLc (iRg1 (aCons (eInt 8) aNil)) (tgN 6) bYes (eBin gAdd (eBin gIx (eVar 3) (eVar 6)) (eBin gIx (eVar 5) (eVar 6))) [6])) sNil)))
    (fun pre ρ φ => ∃ L y4 y5, ρ = [some .feed, some (rws RT), some (.int (m : Int)), some (row L), y4, y5, none] ∧ Lat L ∧ bd (2 * pre.length) L) (List.range m) [] (ρ := [some .feed, some (rws RT), some (.int (m : Int)), some (row z8), none, none, none]) (φ := φ) ⟨z8, none, none, rfl, z8_lat, by intro a ha; simp [z8] at ha; omega⟩ (by
    rintro pre k post ρ φ hp ⟨L, y4, y5, rfl, hL, hb⟩
    obtain ⟨r, hr, g⟩ := draw_ix row RT φ 240 rfl RT_len (by decide)
    have e3 : eLc (iRg1 (aCons (eInt 8) aNil)) (tgN 6) bYes (eBin gAdd (eBin gIx (eVar 3) (eVar 6)) (eBin gIx (eVar 5) (eVar 6))) [6] [some .feed, some (rws RT), some (.int (m : Int)), some (row L), some (D.int (k : Int)), some (row r), none] (φ.draw 240).2 = .ok (row (add L r)) (φ.draw 240).2 := by
      refine Eq.trans (b := O.ok (D.lst ((List.range 8).map fun k => D.int (L.getD k 0 + r.getD k 0))) _) (lcm_ok (List.range 8) _ (fun k => D.int (L.getD k 0 + r.getD k 0)) rg8 (by decide) fun k hk => ⟨_, rfl, bin_ok (bin_ok (v_ok rfl) (v_ok rfl) (gIx_row (getD_get hL.1 hk))) (bin_ok (v_ok rfl) (v_ok rfl) (gIx_row (getD_get (RT_l8 hr) hk))) rfl⟩) ?_
      rw [placed hL.1 (RT_l8 hr) (fun x y => x + y)]
      rfl
    refine ⟨_, rfl, _, _, .inl (seq_nx (set_ok (bin_ok (v_ok rfl) (draw_at 0 rfl rfl (by decide) (by decide)) g)) (seq_one (set_ok e3))), add L r, some (D.int (k : Int)), some (row r), rfl, hL.add (RT_lat hr), ?_⟩
    have := add_bd hb (RT_bd hr)
    rw [List.length_append, List.length_singleton, Nat.mul_add]
    exact this)
  rw [List.nil_append, List.length_range] at hb
  refine ⟨L, φ', run_rt (seq_nx (set_ok (d := row z8) (by kernel_rfl)) (seq_nx (for_ok (rg1_ok (n := m) (one_ok (v_ok rfl)) (by omega)) l1) (seq_rt (ret_ok (v_ok rfl))))), hL, hb⟩
def EVN : List (List Int) := RT.filter fun r => decide ((r.headD 0).fmod 2 = 0)
theorem EVN_len : EVN.length = 112 := by decide +kernel
theorem EVN_ev : ∀ r ∈ EVN, ∀ x ∈ r, x % 2 = 0 := by decide +kernel
/-- what is given to a turn -/
structure Gv (R p : List Int) : Prop where
  lat : Lat R
  tw : R = smul 2 p
  bd : bd 12 R
theorem smul_bd {x : List Int} {n : Nat} (h : bd n x) : bd (2 * n) (smul 2 x) := fun a ha => by
  obtain ⟨b, hb, rfl⟩ := List.mem_map.mp ha
  have := h b hb
  omega
theorem f_leven (φ : Fd) : ∃ R φ', F__law_even [.feed, rws RT] φ = .ok (row R) φ' ∧ ∃ p, Gv R p := by
  obtain ⟨h0, h1⟩ := φ.draw_range (m := 4) (by decide)
  obtain ⟨m, hm⟩ : ∃ m : Nat, (φ.draw 4).1 = (m : Int) := ⟨_, (Int.toNat_of_nonneg h0).symm⟩
  obtain ⟨φ1, hφ1⟩ : ∃ x, x = (φ.draw 4).2 := ⟨_, rfl⟩
  have s2 : eCall F__law_draw (aCons (eVar 0) (aCons (eInt 4) aNil)) [some .feed, some (rws RT), none, none, none, none, none, none, none] φ = .ok (.int (m : Int)) φ1 := by
    rw [← hm, hφ1]
    exact draw_at 0 rfl rfl (by decide) (by decide)
  have s3 : eLc (iSeq (eVar 1)) (tgN 6) (bCmp gEq (eBin gMod (eBin gIx (eVar 6) (eInt 0)) (eInt 2)) (eInt 0)) (eVar 6) [6] [some .feed, some (rws RT), some (.int (m : Int)), none, none, none, none, none, none] φ1 = .ok (rws EVN) φ1 :=
    lc_ok RT row (fun r => decide ((r.headD 0).fmod 2 = 0)) row (seq_l (v_ok rfl)) (size_le (by rw [RT_len]; decide)) fun r hr => ⟨_, rfl, cmp_ok (bin_ok (bin_ok (v_ok rfl) rfl (show gIx (row r) (.int 0) = some (.int (r.headD 0)) from by
      match r, RT_l8 hr with
      | a :: t, _ => exact gIx_row (k := 0) rfl)) rfl (gMod_ok (by decide))) rfl (eq_int _ _), fun _ => v_ok rfl⟩
  have t : bCmp gEq (eVar 2) (eInt 0) [some .feed, some (rws RT), some (.int (m : Int)), some (rws EVN), none, none, none, none, none] φ1 = .ok (decide ((m : Int) = 0)) φ1 := cmp_ok (v_ok rfl) rfl (eq_int _ _)
  by_cases z : (m : Int) = 0
  · obtain ⟨k0, k1⟩ := φ1.draw_range (m := 4) (by decide)
    obtain ⟨n, hn⟩ : ∃ n : Nat, (φ1.draw 4).1 = (n : Int) := ⟨_, (Int.toNat_of_nonneg k0).symm⟩
    obtain ⟨L, φ2, e, hL, hb⟩ := f_lrow (φ1.draw 4).2 n (by omega)
    refine ⟨smul 2 L, φ2, run_rt (seq_nx (set_ok s2) (seq_nx (set_ok s3) (seq_rt (if_yes (t.trans (by rw [decide_eq_true z])) (seq_rt (ret_ok ?_)))))), L, hL.smul 2, rfl, fun a ha => by have := smul_bd hb a ha; omega⟩
    refine Eq.trans (b := O.ok (D.lst (L.map fun x => D.int (2 * x))) φ2) (lcm_ok L D.int (fun x => D.int (2 * x)) (seq_l (call_ok (cons_ok (v_ok rfl) (two_ok (v_ok rfl) (by rw [← hn]; exact draw_at 0 rfl rfl (by decide) (by decide)))) e)) (size_le (by rw [hL.1]; decide)) fun x hx => ⟨_, rfl, bin_ok rfl (v_ok rfl) (gMul_ok' (by decide))⟩) ?_
    unfold row smul
    rw [List.map_map]
    rfl
  · obtain ⟨ρ', φ', l1, L, y5, y6, rfl, hL, hb, he⟩ := for_st (T := tgN 5) (e := fun k : Nat => D.int (k : Int)) (B := (sSeq (sSet 6 (eBin gIx (eVar 3) (eCall F__law_draw (aCons (eVar 0) (aCons (eInt 112) aNil))))) (sSeq (sSet 4 (eLc (iRg1 (aCons (eInt 8) aNil)) (tgN 8) bYes (eBin gAdd (eBin gIx (eVar 4) (eVar 8)) (eBin gIx (eVar 6) (eVar 8))) [8])) sNil)))
      (fun pre ρ φ => ∃ L y5 y6, ρ = [some .feed, some (rws RT), some (.int (m : Int)), some (rws EVN), some (row L), y5, y6, none, none] ∧ Lat L ∧ bd (2 * pre.length) L ∧ ∀ x ∈ L, x % 2 = 0) (List.range m) [] (ρ := [some .feed, some (rws RT), some (.int (m : Int)), some (rws EVN), some (row z8), none, none, none, none]) (φ := φ1) ⟨z8, none, none, rfl, z8_lat, by intro a ha; simp [z8] at ha; omega, by decide⟩ (by
      rintro pre k post ρ φ hp ⟨L, y5, y6, rfl, hL, hb, he⟩
      obtain ⟨r, hr', g⟩ := draw_ix row EVN φ 112 rfl EVN_len (by decide)
      have hr : r ∈ RT := (List.mem_filter.mp hr').1
      have e3 : eLc (iRg1 (aCons (eInt 8) aNil)) (tgN 8) bYes (eBin gAdd (eBin gIx (eVar 4) (eVar 8)) (eBin gIx (eVar 6) (eVar 8))) [8] [some .feed, some (rws RT), some (.int (m : Int)), some (rws EVN), some (row L), some (D.int (k : Int)), some (row r), none, none] (φ.draw 112).2 = .ok (row (add L r)) (φ.draw 112).2 := by
        refine Eq.trans (b := O.ok (D.lst ((List.range 8).map fun k => D.int (L.getD k 0 + r.getD k 0))) _) (lcm_ok (List.range 8) _ (fun k => D.int (L.getD k 0 + r.getD k 0)) rg8 (by decide) fun k hk => ⟨_, rfl, bin_ok (bin_ok (v_ok rfl) (v_ok rfl) (gIx_row (getD_get hL.1 hk))) (bin_ok (v_ok rfl) (v_ok rfl) (gIx_row (getD_get (RT_l8 hr) hk))) rfl⟩) ?_
        rw [placed hL.1 (RT_l8 hr) (fun x y => x + y)]
        rfl
      have hev : ∀ {x y : List Int}, (∀ a ∈ x, a % 2 = 0) → (∀ a ∈ y, a % 2 = 0) → ∀ a ∈ add x y, a % 2 = 0 := fun {x y} h1 h2 a ha => by
        have := add_par (o := 0) (p := x) (t := y) (fun a ha => by have := h1 a ha; omega) h2 a ha
        omega
      refine ⟨_, rfl, _, _, .inl (seq_nx (set_ok (bin_ok (v_ok rfl) (draw_at 0 rfl rfl (by decide) (by decide)) g)) (seq_one (set_ok e3))), add L r, some (D.int (k : Int)), some (row r), rfl, hL.add (RT_lat hr), ?_, hev he (EVN_ev r hr')⟩
      have := add_bd hb (RT_bd hr)
      rw [List.length_append, List.length_singleton, Nat.mul_add]
      exact this)
    rw [List.nil_append, List.length_range] at hb
    refine ⟨L, φ', run_rt (seq_nx (set_ok s2) (seq_nx (set_ok s3) (seq_nx (if_skip (t.trans (by rw [decide_eq_false z]))) (seq_nx (set_ok (d := row z8) (φ1 := φ1) (by kernel_rfl)) (seq_nx (for_ok (rg1_ok (n := m) (one_ok (v_ok rfl)) (by omega)) l1) (seq_rt (ret_ok (v_ok rfl)))))))), half L, hL, (smul_half fun a ha => by rw [fm2]; exact he a ha).symm, fun a ha => by have := hb a ha; omega⟩
end Pf

set_option Elab.async false
set_option linter.all false
set_option maxRecDepth 100000
set_option maxHeartbeats 4000000
namespace Pf
open PySem PySem.Spec PyProof.Rows L2

theorem shp2 {α : Type} [DecidableEq α] {f : α → D} {lt : α → α → Bool} {n : Nat} (h : Emb f lt n) (hn : n ≤ 60) (s : Str) (x : α) (hs : PyData.strOk s = true) : (D.tup [.str s, f x]).shp = true := by
  have h1 := h.lay x
  have h2 := h.dep x
  show (PyData.canLay0 (.tuple [.str s, (f x).py]) && decide (PyData.depth (.tuple [.str s, (f x).py]) ≤ 64)) = true
  rw [Bool.and_eq_true, decide_eq_true_eq]
  constructor
  · simp [PyData.canLay0, PyData.canLayAll0, h1, hs]
  · simp only [PyData.depth, PyData.depthAll]
    omega
theorem rest_shp (R : List Int) : (restD R).shp = true := by
  unfold restD
  split
  · kernel_rfl
  · split
    · exact shp2 emb_row (by decide) _ _ (by kernel_rfl)
    · exact shp2 emb_rws (by decide) _ _ (by kernel_rfl)
theorem near_shp : (D.tup [.str "nearest"]).shp = true := by kernel_rfl
theorem near_eq : gEq (.tup [.str "nearest"]) (.tup [.str "nearest"]) = some (.bl true) := by
  have h : (D.tup [.str "nearest"]).shp = true := near_shp
  unfold gEq
  rw [h]
  have hc : (D.tup [.str "nearest"]).py.canLay0 = true := by kernel_rfl
  show some (D.bl (PyData.eqv _ _)) = _
  rw [PySem.SeqAt.eqv_refl _ hc]
theorem nearer_eq (r : List Int) : gEq (.tup [.str "nearer", row r]) (.tup [.str "nearest"]) = some (.bl false) := by
  unfold gEq
  rw [shp2 emb_row (by decide) _ _ (by kernel_rfl), near_shp]
  show some (D.bl (PyData.eqv (.tuple [.str "nearer", (row r).py]) (.tuple [.str "nearest"]))) = _
  simp [PyData.eqv, PyData.eqvAll]
theorem ne_bl (a b : Bool) : gNe (.bl a) (.bl b) = some (.bl (!decide (a = b))) := by cases a <;> cases b <;> rfl
theorem half_zip : ∀ R a : List Int, List.zipWith (fun x y => (x + y).fdiv 2) R a = half (add R a)
  | [], a => by cases a <;> rfl
  | _ :: _, [] => rfl
  | x :: R, y :: a => by
    show (x + y).fdiv 2 :: List.zipWith (fun x y => (x + y).fdiv 2) R a = (x + y).fdiv 2 :: half (add R a)
    rw [half_zip R a]
theorem two_zip : ∀ R r : List Int, List.zipWith (fun x y => x + 2 * y) R r = add R (smul 2 r)
  | [], a => by cases a <;> rfl
  | _ :: _, [] => rfl
  | x :: R, y :: a => by
    show (x + 2 * y) :: List.zipWith (fun x y => x + 2 * y) R a = (x + 2 * y) :: add R (smul 2 a)
    rw [two_zip R a]
section
variable {R p : List Int} (G : Gv R p)
include G in
theorem Gv.p8 : p.length = 8 := Pf.p8 G.lat G.tw
include G in
theorem Gv.pb : Pf.bd 6 p := fun a ha => by
  have := G.bd (2 * a) (by rw [G.tw]; exact List.mem_map.mpr ⟨a, ha, rfl⟩)
  omega
include G in
theorem Gv.nb {w : List Int} (hw : w ∈ NR p) : Pf.bd 8 w := by
  unfold NR at hw
  have := (List.mem_filter.mp ((List.mergeSort_perm _ _).mem_iff.mp hw)).1
  exact nall_bd G.p8 G.pb this
include G in
theorem Gv.nlen : (NR p).length ≤ 16 := by
  rcases lst_cases G.lat G.tw with q | q | q
  · rw [NR_one G.lat G.tw q]; decide
  · rw [NR_two G.lat G.tw q]; decide
  · rw [NR_four G.lat G.tw q]; exact Nat.le_refl _
/-- mirrored: the same rest -/
theorem rest_moved (hR : Lat R) {r : List Int} (hr : r ∈ RT) : restD (add R (smul 2 r)) = restD R := by
  have hR' : Lat (add R (smul 2 r)) := hR.add ((RT_lat hr).smul 2)
  have e1 : twb (add R (smul 2 r)) = twb R := by rw [Bool.eq_iff_iff, tw_iff, tw_iff]; exact tw_mod hR (RT_lat hr)
  have e2 : RL (add R (smul 2 r)) = RL R := List.filter_congr fun s hs => by
    rw [Bool.eq_iff_iff, tw_iff, tw_iff]
    have := Cl.moved hR (RT_lat hr) (a := s)
    unfold Cl at this
    exact ⟨fun h => (this.mp ⟨RT_lat hs, h⟩).2, fun h => (this.mpr ⟨RT_lat hs, h⟩).2⟩
  have e3 : FR (add R (smul 2 r)) = FR R := asc_uniq tot_row (FR_asc hR') (FR_asc hR) fun a => by
    rw [FR_mem hR', FR_mem hR, Cl.moved hR (RT_lat hr)]
  unfold restD
  rw [e1, e2, e3]
theorem sum2_moved (hR : Lat R) {r : List Int} (hr : r ∈ RT) : ((dot (add R (smul 2 r)) (add R (smul 2 r))).fdiv 2).fmod 2 = ((dot R R).fdiv 2).fmod 2 := by
  have hR' : Lat (add R (smul 2 r)) := hR.add ((RT_lat hr).smul 2)
  have hl : R.length = (smul 2 r).length := by rw [hR.1, smul_len, RT_l8 hr]
  have e : mulS (add R (smul 2 r)) (add R (smul 2 r)) = mulS R R + 4 * mulS R r + 32 := by
    rw [mulS_add hl, mulS_comm R (add R _), mulS_comm (smul 2 r) (add R _), mulS_add hl, mulS_add hl, mulS_two, mulS_smul, mulS_comm R (smul 2 r), mulS_smul, RT_sq hr, mulS_comm r R]
    omega
  have d1 := hR'.dot hR'
  have d2 := hR.dot hR
  have d3 := hR.dot (RT_lat hr)
  rw [Int.fmod_eq_emod_of_nonneg _ (by decide), Int.fmod_eq_emod_of_nonneg _ (by decide), Int.fdiv_eq_ediv_of_nonneg _ (by decide), Int.fdiv_eq_ediv_of_nonneg _ (by decide)]
  omega
include G in
theorem tail_ok (φ : Fd) (y3 y8 y10 y11 y12 y13 y14 : Option D) {l : List (List Int)} (hn : l.Nodup) (hl : ∀ a, a ∈ l ↔ Cl R a ∧ mulS a a = 4 * lst p) (hll : l.length ≤ 1000) :
    ∃ φ' z11 z12 z13 z14, (sSeq (sSet 10 (eCB gSorted (aCons (eLc (iSeq (eVar 9)) (tgN 11) bYes (eLc (iRg1 (aCons (eInt 8) aNil)) (tgN 16) bYes (eBin gDiv (eBin gAdd (eBin gIx (eVar 4) (eVar 16)) (eBin gIx (eVar 11) (eVar 16))) (eInt 2)) [16]) [11]) aNil))) (sSeq (sIf (bCmp gNe (eVar 7) (eVar 10)) (sSeq (sRet (eBl false)) sNil) sNil) (sSeq (sFor (iSeq (eSl (eVar 7) oNone (oSome (eInt 3)))) (tgN 11) (sSeq (sIf (bCmp gNe (eCall F_is_nearest (aCons (eCB gList (aCons (eVar 5) aNil)) (aCons (eCB gList (aCons (eVar 11) aNil)) aNil))) (eTup (aCons (eStr "nearest") aNil))) (sSeq (sRet (eBl false)) sNil) sNil) sNil)) (sSeq (sSet 12 (eBin gIx (eVar 2) (eCall F__law_draw (aCons (eVar 1) (aCons (eInt 240) aNil))))) (sSeq (sSet 13 (eLc (iRg1 (aCons (eInt 8) aNil)) (tgN 16) bYes (eBin gAdd (eBin gIx (eBin gIx (eVar 7) (eInt 0)) (eVar 16)) (eBin gIx (eVar 12) (eVar 16))) [16])) (sSeq (sIf (bCmp gNe (eBin gEq (eCall F_is_nearest (aCons (eCB gList (aCons (eVar 5) aNil)) (aCons (eVar 13) aNil))) (eTup (aCons (eStr "nearest") aNil))) (eBin (gIn false) (eVar 13) (eVar 7))) (sSeq (sRet (eBl false)) sNil) sNil) (sSeq (sSet 14 (eLc (iRg1 (aCons (eInt 8) aNil)) (tgN 16) bYes (eBin gAdd (eBin gIx (eVar 4) (eVar 16)) (eBin gMul (eInt 2) (eBin gIx (eVar 12) (eVar 16)))) [16])) (sSeq (sIf (bOr (bCmp gNe (eCall F_rest_by_two (aCons (eVar 14) aNil)) (eVar 6)) (bOr (bCmp gNe (eCall F_sum_by_two (aCons (eVar 14) aNil)) (eCall F_sum_by_two (aCons (eCB gList (aCons (eVar 4) aNil)) aNil))) (bCmp gNe (eCall F_sum_by_two (aCons (eCB gList (aCons (eVar 4) aNil)) aNil)) (eBin gMod (eCB gInt (aCons (eBin gDiv (eCall F__law_product (aCons (eVar 4) (aCons (eVar 4) aNil))) (eInt 2)) aNil)) (eInt 2))))) (sSeq (sRet (eBl false)) sNil) sNil) sNil))))))))
      [none, some .feed, some (rws RT), y3, some (row R), some (row p), some (restD R), some (rws (NR p)), y8, some (rws l), y10, y11, y12, y13, y14, none, none] φ = .nx [none, some .feed, some (rws RT), y3, some (row R), some (row p), some (restD R), some (rws (NR p)), y8, some (rws l), some (rws (NR p)), z11, z12, z13, z14, none, none] φ' := by
  have h8 := G.p8
  have hR8 := G.lat.1
  have Rb : ∀ x ∈ R, x.natAbs ≤ 1000000 := fun x hx => by have := G.bd x hx; omega
  have e10 : eCB gSorted (aCons (eLc (iSeq (eVar 9)) (tgN 11) bYes (eLc (iRg1 (aCons (eInt 8) aNil)) (tgN 16) bYes (eBin gDiv (eBin gAdd (eBin gIx (eVar 4) (eVar 16)) (eBin gIx (eVar 11) (eVar 16))) (eInt 2)) [16]) [11]) aNil) [none, some .feed, some (rws RT), y3, some (row R), some (row p), some (restD R), some (rws (NR p)), y8, some (rws l), y10, y11, y12, y13, y14, none, none] φ = .ok (rws (NR p)) φ := by
    refine cb1_ok (d := rws (l.map fun a => half (add R a))) (Eq.trans (b := O.ok (D.lst (l.map fun a => row (half (add R a)))) φ) (lcm_ok l row (fun a => row (half (add R a))) (seq_l (v_ok rfl)) (size_le (by omega)) fun a ha => ⟨_, rfl, ?_⟩) ?_) ?_
    · have ha8 : a.length = 8 := ((hl a).mp ha).1.1.1
      refine Eq.trans (b := O.ok (D.lst ((List.range 8).map fun k => D.int ((R.getD k 0 + a.getD k 0).fdiv 2))) φ) (lcm_ok (List.range 8) _ (fun k => D.int ((R.getD k 0 + a.getD k 0).fdiv 2)) rg8 (by decide) fun k hk => ⟨_, rfl, bin_ok (bin_ok (bin_ok (v_ok rfl) (v_ok rfl) (gIx_row (getD_get hR8 hk))) (bin_ok (v_ok rfl) (v_ok rfl) (gIx_row (getD_get ha8 hk))) rfl) rfl (gDiv_ok (by decide) (by decide))⟩) ?_
      rw [placed hR8 ha8 (fun x y => (x + y).fdiv 2), half_zip]
      rfl
    · unfold rws
      rw [List.map_map]
      rfl
    · refine (emb_row.gSorted (by decide) _).trans ?_
      rw [← due_eq G.lat G.tw hn hl]
      rfl
  have is1 : ∀ w ∈ NR p, F_is_nearest [row p, row w] φ = .ok (.tup [.str "nearest"]) φ := fun w hw => by
    obtain ⟨h1, h2⟩ := (NR_min h8).mp hw
    exact (f_isnear h8 (n := 8) (by decide) (fun x hx => by have := G.pb x hx; omega) h1.1 (G.nb hw) φ).1 ((voronoi h8 h1).mpr h2)
  obtain ⟨ρ1, l1, y, rfl⟩ := for_inv (T := tgN 11) (φ := φ) (e := row) (B := (sSeq (sIf (bCmp gNe (eCall F_is_nearest (aCons (eCB gList (aCons (eVar 5) aNil)) (aCons (eCB gList (aCons (eVar 11) aNil)) aNil))) (eTup (aCons (eStr "nearest") aNil))) (sSeq (sRet (eBl false)) sNil) sNil) sNil))
    (fun pre ρ => ∃ y, ρ = [none, some .feed, some (rws RT), y3, some (row R), some (row p), some (restD R), some (rws (NR p)), y8, some (rws l), some (rws (NR p)), y, y12, y13, y14, none, none]) ((NR p).take 3) [] (ρ := [none, some .feed, some (rws RT), y3, some (row R), some (row p), some (restD R), some (rws (NR p)), y8, some (rws l), some (rws (NR p)), y11, y12, y13, y14, none, none]) ⟨y11, rfl⟩ (by
    rintro pre w post ρ hpp ⟨y, rfl⟩
    have hw : w ∈ NR p := List.mem_of_mem_take (by rw [show (NR p).take 3 = pre ++ w :: post from hpp]; simp)
    exact ⟨_, rfl, _, .inl (seq_one (if_skip (cmp_ok (call_ok (two_ok (cb1_ok (v_ok rfl) rfl) (cb1_ok (v_ok rfl) rfl)) (is1 w hw)) (tup_ok (one_ok rfl) (size_le (show 1 ≤ 1000000 by decide))) (ne_self near_shp)))), some (row w), rfl⟩)
  obtain ⟨r, hr, g⟩ := draw_ix row RT φ 240 rfl RT_len (by decide)
  obtain ⟨φ1, hφ1⟩ : ∃ x, x = (φ.draw 240).2 := ⟨_, rfl⟩
  obtain ⟨w0, l0, hN⟩ := NR_ne h8
  have hw0 : w0 ∈ NR p := by rw [hN]; simp
  obtain ⟨hw0l, _⟩ := (NR_min h8).mp hw0
  have ix0 : gIx (rws (NR p)) (.int 0) = some (row w0) := gIx_lst (k := 0) (by rw [hN]; rfl)
  have hol : Lat (add w0 r) := hw0l.add (RT_lat hr)
  have hob : bd 10 (add w0 r) := add_bd (G.nb hw0) (RT_bd hr)
  have e13 : ∀ y11 : Option D, eLc (iRg1 (aCons (eInt 8) aNil)) (tgN 16) bYes (eBin gAdd (eBin gIx (eBin gIx (eVar 7) (eInt 0)) (eVar 16)) (eBin gIx (eVar 12) (eVar 16))) [16] [none, some .feed, some (rws RT), y3, some (row R), some (row p), some (restD R), some (rws (NR p)), y8, some (rws l), some (rws (NR p)), y11, some (row r), y13, y14, none, none] φ1 = .ok (row (add w0 r)) φ1 := fun y11 => by
    refine Eq.trans (b := O.ok (D.lst ((List.range 8).map fun k => D.int (w0.getD k 0 + r.getD k 0))) _) (lcm_ok (List.range 8) _ (fun k => D.int (w0.getD k 0 + r.getD k 0)) rg8 (by decide) fun k hk => ⟨_, rfl, bin_ok (bin_ok (bin_ok (v_ok rfl) rfl ix0) (v_ok rfl) (gIx_row (getD_get hw0l.1 hk))) (bin_ok (v_ok rfl) (v_ok rfl) (gIx_row (getD_get (RT_l8 hr) hk))) rfl⟩) ?_
    rw [placed hw0l.1 (RT_l8 hr) (fun x y => x + y)]
    rfl
  have v0 := voronoi h8 hol
  have nf := f_isnear h8 (n := 10) (by decide) (fun x hx => by have := G.pb x hx; omega) hol.1 hob φ1
  have e13t : ∀ ρ : En, ρ[5]? = some (some (row p)) → ρ[13]? = some (some (row (add w0 r))) → ρ[7]? = some (some (rws (NR p))) → bCmp gNe (eBin gEq (eCall F_is_nearest (aCons (eCB gList (aCons (eVar 5) aNil)) (aCons (eVar 13) aNil))) (eTup (aCons (eStr "nearest") aNil))) (eBin (gIn false) (eVar 13) (eVar 7)) ρ φ1 = .ok false φ1 := fun ρ r5 r13 r7 => by
    have hin : eBin (gIn false) (eVar 13) (eVar 7) ρ φ1 = .ok (.bl (decide (add w0 r ∈ NR p))) φ1 := bin_ok (v_ok r13) (v_ok r7) (in_rows (add w0 r) (NR p))
    have hmem : add w0 r ∈ NR p ↔ ∀ s ∈ RT, dst p (add w0 r) ≤ dst p (add (add w0 r) s) := by
      rw [NR_min h8, v0]
      exact ⟨fun h => h.2, fun h => ⟨hol, h⟩⟩
    by_cases q : add w0 r ∈ NR p
    · have c := nf.1 (hmem.mp q)
      refine (cmp_ok (d := .bl true) (bin_ok (call_ok (two_ok (cb1_ok (v_ok r5) rfl) (v_ok r13)) c) (tup_ok (one_ok rfl) (size_le (show 1 ≤ 1000000 by decide))) near_eq) hin (ne_bl _ _)).trans ?_
      rw [decide_eq_true q]
      rfl
    · obtain ⟨s, c⟩ := nf.2 fun h => q (hmem.mpr h)
      refine (cmp_ok (d := .bl false) (bin_ok (call_ok (two_ok (cb1_ok (v_ok r5) rfl) (v_ok r13)) c) (tup_ok (one_ok rfl) (size_le (show 1 ≤ 1000000 by decide))) (nearer_eq s)) hin (ne_bl _ _)).trans ?_
      rw [decide_eq_false q]
      rfl
  have hml : (add R (smul 2 r)).length = 8 := (G.lat.add ((RT_lat hr).smul 2)).1
  have e14 : ∀ y11 : Option D, eLc (iRg1 (aCons (eInt 8) aNil)) (tgN 16) bYes (eBin gAdd (eBin gIx (eVar 4) (eVar 16)) (eBin gMul (eInt 2) (eBin gIx (eVar 12) (eVar 16)))) [16] [none, some .feed, some (rws RT), y3, some (row R), some (row p), some (restD R), some (rws (NR p)), y8, some (rws l), some (rws (NR p)), y11, some (row r), some (row (add w0 r)), y14, none, none] φ1 = .ok (row (add R (smul 2 r))) φ1 := fun y11 => by
    refine Eq.trans (b := O.ok (D.lst ((List.range 8).map fun k => D.int (R.getD k 0 + 2 * r.getD k 0))) _) (lcm_ok (List.range 8) _ (fun k => D.int (R.getD k 0 + 2 * r.getD k 0)) rg8 (by decide) fun k hk => ⟨_, rfl, bin_ok (bin_ok (v_ok rfl) (v_ok rfl) (gIx_row (getD_get hR8 hk))) (bin_ok rfl (bin_ok (v_ok rfl) (v_ok rfl) (gIx_row (getD_get (RT_l8 hr) hk))) (gMul_ok' (by decide))) rfl⟩) ?_
    rw [placed hR8 (RT_l8 hr) (fun x y => x + 2 * y), two_zip]
    rfl
  have mb : ∀ x ∈ add R (smul 2 r), x.natAbs ≤ 1000000 := fun x hx => by
    have := add_bd G.bd (smul_bd (RT_bd hr)) x hx
    omega
  have s2R : ∀ ρ : En, ρ[4]? = some (some (row R)) → eCall F_sum_by_two (aCons (eCB gList (aCons (eVar 4) aNil)) aNil) ρ φ1 = .ok (.int (((dot R R).fdiv 2).fmod 2)) φ1 := fun ρ r4 => call_ok (one_ok (cb1_ok (v_ok r4) rfl)) (f_sum2 φ1 Rb hR8)
  have e15 : ∀ ρ : En, ρ[14]? = some (some (row (add R (smul 2 r)))) → ρ[6]? = some (some (restD R)) → ρ[4]? = some (some (row R)) → bOr (bCmp gNe (eCall F_rest_by_two (aCons (eVar 14) aNil)) (eVar 6)) (bOr (bCmp gNe (eCall F_sum_by_two (aCons (eVar 14) aNil)) (eCall F_sum_by_two (aCons (eCB gList (aCons (eVar 4) aNil)) aNil))) (bCmp gNe (eCall F_sum_by_two (aCons (eCB gList (aCons (eVar 4) aNil)) aNil)) (eBin gMod (eCB gInt (aCons (eBin gDiv (eCall F__law_product (aCons (eVar 4) (aCons (eVar 4) aNil))) (eInt 2)) aNil)) (eInt 2)))) ρ φ1 = .ok false φ1 := fun ρ r14 r6 r4 => by
    refine or_no (cmp_ok (call_ok (one_ok (v_ok r14)) ((f_rest hml φ1).trans (by rw [rest_moved G.lat hr]))) (v_ok r6) (ne_self (rest_shp R))) (or_no (cmp_ok (call_ok (one_ok (v_ok r14)) ((f_sum2 φ1 mb hml).trans (by rw [sum2_moved G.lat hr]))) (s2R ρ r4) (ne_false emb_int (by decide) _)) (cmp_ok (s2R ρ r4) (bin_ok (cb1_ok (bin_ok (call_ok (two_ok (v_ok r4) (v_ok r4)) (f_lprod φ1 ⟨hR8, Rb⟩ ⟨hR8, Rb⟩)) rfl (gDiv_ok (by decide) (by decide))) rfl) rfl (gMod_ok (by decide))) (ne_false emb_int (by decide) _)))
  have sl : iSeq (eSl (eVar 7) oNone (oSome (eInt 3))) [none, some .feed, some (rws RT), y3, some (row R), some (row p), some (restD R), some (rws (NR p)), y8, some (rws l), some (rws (NR p)), y11, y12, y13, y14, none, none] φ = .ok (((NR p).take 3).map row) φ := by
    rw [List.map_take]
    exact seq_l (sl_ok1 (l := (NR p).map row) (k := 3) (v_ok rfl) rfl)
  refine ⟨φ1, y, some (row r), some (row (add w0 r)), some (row (add R (smul 2 r))), seq_nx (set_ok e10) (seq_nx (if_skip (cmp_ok (v_ok rfl) (v_ok rfl) (ne_false emb_rws (by decide) (NR p)))) (seq_nx (for_ok sl l1) (seq_nx (set_ok (bin_ok (v_ok rfl) (by rw [hφ1]; exact draw_at 1 rfl rfl (by decide) (by decide)) g)) (seq_nx (set_ok (e13 y)) (seq_nx (if_skip (e13t _ rfl rfl rfl)) (seq_nx (set_ok (e14 y)) (seq_one (if_skip (e15 _ rfl rfl rfl)))))))))⟩
end
end Pf

set_option Elab.async false
set_option linter.all false
set_option maxRecDepth 100000
set_option maxHeartbeats 4000000
namespace Pf
open PySem PySem.Spec PyProof.Rows L2

theorem gIx_tup {l : List D} {k : Nat} {x : D} (h : l[k]? = some x) : gIx (.tup l) (.int (k : Int)) = some x := by
  show atI l (k : Int) = _
  rw [atI_nat h]
theorem sE1 : gEq (.str "nothing") (.str "pair") = some (.bl false) := by kernel_rfl
theorem sE2 : gEq (.str "nothing") (.str "frame") = some (.bl false) := by kernel_rfl
theorem sE3 : gEq (.str "pair") (.str "pair") = some (.bl true) := by kernel_rfl
theorem sE4 : gEq (.str "pair") (.str "frame") = some (.bl false) := by kernel_rfl
theorem sE5 : gEq (.str "frame") (.str "pair") = some (.bl false) := by kernel_rfl
theorem sE6 : gEq (.str "frame") (.str "frame") = some (.bl true) := by kernel_rfl
theorem dix_ok {ρ : En} {φ : Fd} {B : SX} {nm : Str} {l : List (Key × D)} {A : SX} {d : D} (ha : A ρ φ = .ok (.dk l) φ) (hb : B ρ φ = .ok (.str nm) φ) (h : valD l (.inr nm) = some d) : eDIx A B ρ φ = .ok d φ := by
  unfold eDIx
  rw [ha]
  show (B ρ φ).bind _ = _
  rw [hb]
  show ofO (valD l (.inr nm)) φ = _
  rw [h]
  rfl
def dct3 : List (Key × D) := mergeD [] [(.inr "nothing", .int 1), (.inr "pair", .int 2), (.inr "frame", .int 16)]
section
variable {R p : List Int} (G : Gv R p)
/-- how a rest is told, with the rows alike -/
def Told (R p : List Int) (nm : Str) (k : Nat) (l : List (List Int)) : Prop :=
  gIx (restD R) (.int 0) = some (.str nm) ∧ valD dct3 (.inr nm) = some (.int (k : Int)) ∧ (NR p).length = k ∧ l.Nodup ∧ (∀ a, a ∈ l ↔ Cl R a ∧ mulS a a = 4 * lst p) ∧ l.length ≤ 1000 ∧
  ∀ (φ : Fd) (y3 y7 y8 y9 y10 y11 y12 y13 y14 : Option D) (Q : SS) (r : Pf.R), Q [none, some .feed, some (rws RT), y3, some (row R), some (row p), some (restD R), y7, y8, some (rws l), y10, y11, y12, y13, y14, none, none] φ = r →
    (sSeq (sSet 9 (eLst (aCons (eLc (iRg1 (aCons (eInt 8) aNil)) (tgN 16) bYes (eInt 0) [16]) aNil))) (sSeq (sIf (bCmp gEq (eBin gIx (eVar 6) (eInt 0)) (eStr "pair")) (sSeq (sSet 9 (eLst (aCons (eBin gIx (eVar 6) (eInt 1)) (aCons (eLc (iSeq (eBin gIx (eVar 6) (eInt 1))) (tgN 15) bYes (eUn gNeg (eVar 15)) [15]) aNil)))) (sSeq (sIf (bCmp gIsNotB (eCall F_is_root (aCons (eCB gList (aCons (eBin gIx (eVar 6) (eInt 1)) aNil)) aNil)) (eBl true)) (sSeq (sRet (eBl false)) sNil) sNil) sNil)) sNil) (sSeq (sIf (bCmp gEq (eBin gIx (eVar 6) (eInt 0)) (eStr "frame")) (sSeq (sSet 9 (eBin gIx (eVar 6) (eInt 1))) sNil) sNil) Q))) [none, some .feed, some (rws RT), y3, some (row R), some (row p), some (restD R), y7, y8, y9, y10, y11, y12, y13, y14, none, none] φ = r
include G in
theorem told : ∃ nm k l, Told R p nm k l := by
  have hR := G.lat
  have z9 : ∀ (ρ : En) (φ : Fd), eLst (aCons (eLc (iRg1 (aCons (eInt 8) aNil)) (tgN 16) bYes (eInt 0) [16]) aNil) ρ φ = .ok (rws [z8]) φ := fun ρ φ => by
    refine lst_ok (one_ok (Eq.trans (b := O.ok (D.lst ((List.range 8).map fun _ => D.int 0)) φ) (lcm_ok (List.range 8) (fun k : Nat => D.int (k : Int)) (fun _ => D.int 0) rg8 (by decide) fun k hk => ⟨_, rfl, rfl⟩) rfl)) (size_le (show 1 ≤ 1000000 by decide))
  by_cases ht : Tw R
  · -- nothing
    have hl0 := (tw_lst hR G.tw).mp ht
    have hb : twb R = true := tw_iff.mpr ht
    have hd : restD R = .tup [.str "nothing"] := by unfold restD; rw [hb, if_pos rfl]
    have i0 : gIx (restD R) (.int 0) = some (.str "nothing") := by rw [hd]; exact gIx_tup (k := 0) rfl
    refine ⟨"nothing", 1, [z8], i0, by kernel_rfl, NR_one hR G.tw hl0, by simp, fun a => ?_, by simp, fun φ y3 y7 y8 y9 y10 y11 y12 y13 y14 Q r hQ => ?_⟩
    · rw [List.mem_singleton, hl0]
      constructor
      · rintro rfl
        refine ⟨⟨z8_lat, ?_⟩, by decide⟩
        have : less R z8 1 = R := by
          match R, hR.1 with
          | [a, b, c, d, e, f, g, h], _ =>
            show [a - 1 * 0, b - 1 * 0, c - 1 * 0, d - 1 * 0, e - 1 * 0, f - 1 * 0, g - 1 * 0, h - 1 * 0] = _
            simp
        rw [this]
        exact ht
      · rintro ⟨c, e⟩
        have := mulS_all0 (v := a) (by omega)
        rw [c.1.1] at this
        exact this
    · refine seq_nx (set_ok (z9 _ φ)) (seq_nx (if_skip (cmp_ok (bin_ok (v_ok rfl) rfl i0) rfl sE1)) (seq_nx (if_skip (cmp_ok (bin_ok (v_ok rfl) rfl i0) rfl sE2)) hQ))
  · have hb : twb R = false := by
      cases e : twb R with
      | false => rfl
      | true => exact absurd (tw_iff.mp e) ht
    cases hl : (RL R).getLast? with
    | some r =>
      have hr' : r ∈ RL R := List.mem_of_getLast? hl
      obtain ⟨hr, htw⟩ := List.mem_filter.mp hr'
      have htw := tw_iff.mp htw
      have hl2 := root_lst hR G.tw hr htw
      have hd : restD R = .tup [.str "pair", row r] := by unfold restD; rw [hb, if_neg (by decide), hl]
      have i0 : gIx (restD R) (.int 0) = some (.str "pair") := by rw [hd]; exact gIx_tup (k := 0) rfl
      have i1 : gIx (restD R) (.int 1) = some (row r) := by rw [hd]; exact gIx_tup (k := 1) rfl
      have hne : r ≠ neg r := fun e => by
        have := mulS_neg r r
        rw [← e, RT_sq hr] at this
        cases this
      refine ⟨"pair", 2, [r, neg r], i0, by kernel_rfl, NR_two hR G.tw hl2, by simp [hne], fun a => ?_, by simp, fun φ y3 y7 y8 y9 y10 y11 y12 y13 y14 Q rr hQ => ?_⟩
      · rw [hl2]
        constructor
        · intro h
          rcases List.mem_cons.mp h with rfl | h
          · exact ⟨⟨RT_lat hr, htw⟩, by rw [RT_sq hr]; rfl⟩
          · rw [List.mem_singleton.mp h]
            exact ⟨Cl.neg hR ⟨RT_lat hr, htw⟩, by rw [mulS_neg, mulS_neg', RT_sq hr]; rfl⟩
        · rintro ⟨c, e⟩
          rcases root_two hR hr (RT_mk c.1 (by rw [e]; rfl)) htw c.2 with q | q
          · rw [q]; simp
          · rw [q]; simp
      · have e2 : ∀ ρ : En, ρ[6]? = some (some (restD R)) → (wipeE ρ [15])[6]? = some (some (restD R)) → (∀ z : D, ((wipeE ρ [15]).set 15 (some z))[15]? = some (some z)) → eLst (aCons (eBin gIx (eVar 6) (eInt 1)) (aCons (eLc (iSeq (eBin gIx (eVar 6) (eInt 1))) (tgN 15) bYes (eUn gNeg (eVar 15)) [15]) aNil)) ρ φ = .ok (rws [r, neg r]) φ := fun ρ r6 w6 w15 => by
          refine lst_ok (two_ok (bin_ok (v_ok r6) rfl i1) (Eq.trans (b := O.ok (D.lst (r.map fun x => D.int (-x))) φ) (lcm_ok r D.int (fun x => D.int (-x)) (seq_l (bin_ok (v_ok r6) rfl i1)) (size_le (by rw [RT_l8 hr]; decide)) fun x hx => ⟨_, rfl, un_ok (v_ok (w15 _)) rfl⟩) ?_)) (size_le (show 2 ≤ 1000000 by decide))
          show O.ok (D.lst (r.map fun x => D.int (-x))) φ = O.ok (D.lst ((smul (-1) r).map D.int)) φ
          unfold smul
          rw [List.map_map]
          congr 2
          refine List.map_congr_left fun x _ => ?_
          show D.int (-x) = D.int (-1 * x)
          rw [Int.neg_mul, Int.one_mul]
        refine seq_nx (set_ok (z9 _ φ)) (seq_nx (if_yes (cmp_ok (bin_ok (v_ok rfl) rfl i0) rfl sE3) (seq_nx (set_ok (e2 _ rfl rfl fun z => rfl)) (seq_one (if_skip (cmp_ok (call_ok (one_ok (cb1_ok (bin_ok (v_ok rfl) rfl i1) rfl)) (f_isroot hr φ)) rfl rfl))))) (seq_nx (if_skip (cmp_ok (bin_ok (v_ok rfl) rfl i0) rfl sE4)) hQ))
    | none =>
      have e : RL R = [] := List.getLast?_eq_none_iff.mp hl
      have hl4 : lst p = 4 := by
        rcases lst_cases hR G.tw with q | q | q
        · exact absurd ((tw_lst hR G.tw).mpr q) ht
        · exfalso
          obtain ⟨w, l, hN⟩ := NR_ne G.p8
          obtain ⟨h1, h2⟩ := lst_root hR G.tw q (w := w) (by rw [hN]; simp)
          have : less R w 2 ∈ RL R := List.mem_filter.mpr ⟨h1, tw_iff.mpr h2⟩
          rw [e] at this
          cases this
        · exact q
      have hd : restD R = .tup [.str "frame", rws (FR R)] := by unfold restD; rw [hb, if_neg (by decide), hl]
      have i0 : gIx (restD R) (.int 0) = some (.str "frame") := by rw [hd]; exact gIx_tup (k := 0) rfl
      have i1 : gIx (restD R) (.int 1) = some (rws (FR R)) := by rw [hd]; exact gIx_tup (k := 1) rfl
      have hFl : (FR R).length ≤ 1000 := by
        unfold FR
        rw [(List.mergeSort_perm _ _).length_eq]
        refine Nat.le_trans (List.length_filter_le _ _) ?_
        have l0 := rr_len (q := res 0 R) (by unfold res; rw [List.length_map, hR.1]; decide)
        have l2 := rr_len (q := res 2 R) (by unfold res; rw [List.length_map, hR.1]; decide)
        rw [List.length_append]
        omega
      refine ⟨"frame", 16, FR R, i0, by kernel_rfl, NR_four hR G.tw hl4, lt_nodup tot_row (FR_asc hR), fun a => ?_, hFl, fun φ y3 y7 y8 y9 y10 y11 y12 y13 y14 Q r hQ => ?_⟩
      · rw [FR_mem hR, hl4]
        exact Iff.rfl
      · refine seq_nx (set_ok (z9 _ φ)) (seq_nx (if_skip (cmp_ok (bin_ok (v_ok rfl) rfl i0) rfl sE5)) (seq_nx (if_yes (cmp_ok (bin_ok (v_ok rfl) rfl i0) rfl sE6) (seq_one (set_ok (bin_ok (v_ok rfl) rfl i1)))) hQ))
end
theorem turn_ok (φ : Fd) (y3 y4 y5 y6 y7 y8 y9 y10 y11 y12 y13 y14 : Option D) : ∃ φ' z4 z5 z6 z7 z8 z9 z10 z11 z12 z13 z14, (sSeq (sSet 4 (eCall F__law_even (aCons (eVar 1) (aCons (eVar 2) aNil)))) (sSeq (sSet 5 (eLc (iSeq (eVar 4)) (tgN 15) bYes (eBin gDiv (eVar 15) (eInt 2)) [15])) (sSeq (sSet 6 (eCall F_rest_by_two (aCons (eCB gList (aCons (eVar 4) aNil)) aNil))) (sSeq (sSet 7 (eCall F_near_rows (aCons (eCB gList (aCons (eVar 5) aNil)) aNil))) (sSeq (sSet 8 (eDIx (eDsp (pCons (eStr "nothing") (eInt 1) (pCons (eStr "pair") (eInt 2) (pCons (eStr "frame") (eInt 16) pNil)))) (eBin gIx (eVar 6) (eInt 0)))) (sSeq (sIf (bOr (bCmp gNe (eCB gLen (aCons (eVar 7) aNil)) (eVar 8)) (bOr (bCmp gNe (eVar 7) (eCB gSorted (aCons (eVar 7) aNil))) (bCmp gNe (eCall F_nearest_row (aCons (eCB gList (aCons (eVar 5) aNil)) aNil)) (eBin gIx (eVar 7) (eInt 0))))) (sSeq (sRet (eBl false)) sNil) sNil) (sSeq (sSet 9 (eLst (aCons (eLc (iRg1 (aCons (eInt 8) aNil)) (tgN 16) bYes (eInt 0) [16]) aNil))) (sSeq (sIf (bCmp gEq (eBin gIx (eVar 6) (eInt 0)) (eStr "pair")) (sSeq (sSet 9 (eLst (aCons (eBin gIx (eVar 6) (eInt 1)) (aCons (eLc (iSeq (eBin gIx (eVar 6) (eInt 1))) (tgN 15) bYes (eUn gNeg (eVar 15)) [15]) aNil)))) (sSeq (sIf (bCmp gIsNotB (eCall F_is_root (aCons (eCB gList (aCons (eBin gIx (eVar 6) (eInt 1)) aNil)) aNil)) (eBl true)) (sSeq (sRet (eBl false)) sNil) sNil) sNil)) sNil) (sSeq (sIf (bCmp gEq (eBin gIx (eVar 6) (eInt 0)) (eStr "frame")) (sSeq (sSet 9 (eBin gIx (eVar 6) (eInt 1))) sNil) sNil) (sSeq (sSet 10 (eCB gSorted (aCons (eLc (iSeq (eVar 9)) (tgN 11) bYes (eLc (iRg1 (aCons (eInt 8) aNil)) (tgN 16) bYes (eBin gDiv (eBin gAdd (eBin gIx (eVar 4) (eVar 16)) (eBin gIx (eVar 11) (eVar 16))) (eInt 2)) [16]) [11]) aNil))) (sSeq (sIf (bCmp gNe (eVar 7) (eVar 10)) (sSeq (sRet (eBl false)) sNil) sNil) (sSeq (sFor (iSeq (eSl (eVar 7) oNone (oSome (eInt 3)))) (tgN 11) (sSeq (sIf (bCmp gNe (eCall F_is_nearest (aCons (eCB gList (aCons (eVar 5) aNil)) (aCons (eCB gList (aCons (eVar 11) aNil)) aNil))) (eTup (aCons (eStr "nearest") aNil))) (sSeq (sRet (eBl false)) sNil) sNil) sNil)) (sSeq (sSet 12 (eBin gIx (eVar 2) (eCall F__law_draw (aCons (eVar 1) (aCons (eInt 240) aNil))))) (sSeq (sSet 13 (eLc (iRg1 (aCons (eInt 8) aNil)) (tgN 16) bYes (eBin gAdd (eBin gIx (eBin gIx (eVar 7) (eInt 0)) (eVar 16)) (eBin gIx (eVar 12) (eVar 16))) [16])) (sSeq (sIf (bCmp gNe (eBin gEq (eCall F_is_nearest (aCons (eCB gList (aCons (eVar 5) aNil)) (aCons (eVar 13) aNil))) (eTup (aCons (eStr "nearest") aNil))) (eBin (gIn false) (eVar 13) (eVar 7))) (sSeq (sRet (eBl false)) sNil) sNil) (sSeq (sSet 14 (eLc (iRg1 (aCons (eInt 8) aNil)) (tgN 16) bYes (eBin gAdd (eBin gIx (eVar 4) (eVar 16)) (eBin gMul (eInt 2) (eBin gIx (eVar 12) (eVar 16)))) [16])) (sSeq (sIf (bOr (bCmp gNe (eCall F_rest_by_two (aCons (eVar 14) aNil)) (eVar 6)) (bOr (bCmp gNe (eCall F_sum_by_two (aCons (eVar 14) aNil)) (eCall F_sum_by_two (aCons (eCB gList (aCons (eVar 4) aNil)) aNil))) (bCmp gNe (eCall F_sum_by_two (aCons (eCB gList (aCons (eVar 4) aNil)) aNil)) (eBin gMod (eCB gInt (aCons (eBin gDiv (eCall F__law_product (aCons (eVar 4) (aCons (eVar 4) aNil))) (eInt 2)) aNil)) (eInt 2))))) (sSeq (sRet (eBl false)) sNil) sNil) sNil)))))))))))))))))
    [none, some .feed, some (rws RT), y3, y4, y5, y6, y7, y8, y9, y10, y11, y12, y13, y14, none, none] φ = .nx [none, some .feed, some (rws RT), y3, z4, z5, z6, z7, z8, z9, z10, z11, z12, z13, z14, none, none] φ' := by
  obtain ⟨R, φ1, e4, p, G⟩ := f_leven φ
  have h8 := G.p8
  have hR8 := G.lat.1
  obtain ⟨nm, k, l, i0, i1, hk, hn, hl, hll, hmid⟩ := told G
  have e5 : ∀ y : Option D, eLc (iSeq (eVar 4)) (tgN 15) bYes (eBin gDiv (eVar 15) (eInt 2)) [15] [none, some .feed, some (rws RT), y3, some (row R), y5, y6, y7, y8, y9, y10, y11, y12, y13, y14, none, none] φ1 = .ok (row p) φ1 := fun _ => by
    refine Eq.trans (b := O.ok (D.lst (R.map fun a => D.int (a.fdiv 2))) φ1) (lcm_ok R D.int (fun a => D.int (a.fdiv 2)) (seq_l (v_ok rfl)) (size_le (by rw [hR8]; decide)) fun a _ => ⟨_, rfl, bin_ok (v_ok rfl) rfl (gDiv_ok (by decide) (by decide))⟩) ?_
    rw [half_ints, G.tw, half_smul]
    rfl
  have pb6 : ∀ x ∈ p, x.natAbs ≤ 6 := G.pb
  have fn := f_near h8 (n := 6) (by decide) pb6 φ1
  have dk3 : ∀ ρ : En, eDsp (pCons (eStr "nothing") (eInt 1) (pCons (eStr "pair") (eInt 2) (pCons (eStr "frame") (eInt 16) pNil))) ρ φ1 = .ok (.dk dct3) φ1 := fun ρ => by kernel_rfl
  obtain ⟨w0, l0, hN⟩ := NR_ne h8
  have ix0 : gIx (rws (NR p)) (.int 0) = some (row w0) := gIx_lst (k := 0) (by rw [hN]; rfl)
  have srt : gSorted [rws (NR p)] = some (rws (NR p)) := by
    refine (emb_row.gSorted (by decide) _).trans ?_
    rw [sort_is tot_row (lt_le tot_row (NR_asc h8)) (List.Perm.refl _)]
    rfl
  obtain ⟨φ2, z11, z12, z13, z14, ht⟩ := tail_ok G φ1 y3 (some (.int (k : Int))) y10 y11 y12 y13 y14 hn hl hll
  refine ⟨φ2, _, _, _, _, _, _, _, z11, z12, z13, z14, seq_nx (set_ok (call_ok (two_ok (v_ok rfl) (v_ok rfl)) e4)) (seq_nx (set_ok (e5 none)) (seq_nx (set_ok (call_ok (one_ok (cb1_ok (v_ok rfl) rfl)) (f_rest hR8 φ1))) (seq_nx (set_ok (call_ok (one_ok (cb1_ok (v_ok rfl) rfl)) fn)) (seq_nx (set_ok (dix_ok (dk3 _) (bin_ok (v_ok rfl) rfl i0) i1)) (seq_nx (if_skip (or_no (cmp_ok (cb1_ok (d := rws (NR p)) (v_ok rfl) (sum_lens k _ (by rw [List.length_map]; exact hk))) (v_ok rfl) (ne_len rfl)) (or_no (cmp_ok (v_ok rfl) (cb1_ok (v_ok rfl) srt) (ne_false emb_rws (by decide) (NR p))) (cmp_ok (call_ok (one_ok (cb1_ok (v_ok rfl) rfl)) (f_nearest h8 (n := 6) (by decide) pb6 φ1 hN)) (bin_ok (v_ok rfl) rfl ix0) (ne_false emb_row (by decide) w0))))) (hmid φ1 y3 _ _ _ _ _ _ _ _ _ _ ht))))))⟩
theorem law_true : ∀ φ : Fd, φ.Ok → ∃ φ', B_law ((List.replicate 17 none).set 1 (some .feed)) φ = .rt (.bl true) φ' := by
  intro φ _
  obtain ⟨φ1, y4, y5, y6, y7, y8, y9, y10, y11, y12, y13, y14, t1⟩ := turn_ok φ (some (.int 0)) none none none none none none none none none none none
  obtain ⟨φ2, z4, z5, z6, z7, z8, z9, z10, z11, z12, z13, z14, t2⟩ := turn_ok φ1 (some (.int 1)) y4 y5 y6 y7 y8 y9 y10 y11 y12 y13 y14
  have lp := (forGo_nx (T := tgN 3) (d := .int 0) (ds := [.int 1]) (ρ := [none, some .feed, some (rws RT), none, none, none, none, none, none, none, none, none, none, none, none, none, none]) rfl t1).trans ((forGo_nx (d := .int 1) (ds := []) rfl t2).trans rfl)
  have n16 : F_near_rows [row [2, 0, 0, 0, 0, 0, 0, 0]] φ2 = .ok (rws (NR [2, 0, 0, 0, 0, 0, 0, 0])) φ2 := f_near rfl (n := 6) (by decide) (by decide) φ2
  have n2 : F_near_rows [row [1, 1, 0, 0, 0, 0, 0, 0]] φ2 = .ok (rws (NR [1, 1, 0, 0, 0, 0, 0, 0])) φ2 := f_near rfl (n := 6) (by decide) (by decide) φ2
  have g16 : Gv [4, 0, 0, 0, 0, 0, 0, 0] [2, 0, 0, 0, 0, 0, 0, 0] := ⟨by decide, rfl, by intro a ha; simp at ha; omega⟩
  have l4 : lst [2, 0, 0, 0, 0, 0, 0, 0] = 4 := by decide +kernel
  have k16 : (NR [2, 0, 0, 0, 0, 0, 0, 0]).length = 16 := NR_four g16.lat g16.tw l4
  have k2 : NR [1, 1, 0, 0, 0, 0, 0, 0] = [[0, 0, 0, 0, 0, 0, 0, 0], [2, 2, 0, 0, 0, 0, 0, 0]] := by
    unfold NR
    exact sort_is tot_row (chain_pw _ (by decide) |> lt_le tot_row) (List.isPerm_iff.mp (by decide +kernel))
  refine ⟨φ2, seq_nx (set_ok (call0_ok (f_lroots φ))) (seq_nx (for_ok (rg1_ok (n := 2) rfl (by decide)) lp) (seq_rt (ret_ok (eand_yes (bin_ok (d := .int ((16 : Nat) : Int)) (cb1_ok (call_ok (one_ok (d := row [2, 0, 0, 0, 0, 0, 0, 0]) (by kernel_rfl)) n16) (sum_lens 16 _ (by rw [List.length_map]; exact k16))) rfl ((eq_int _ _).trans (by simp))) (bin_ok (e := rws [[0, 0, 0, 0, 0, 0, 0, 0], [2, 2, 0, 0, 0, 0, 0, 0]]) (call_ok (one_ok (d := row [1, 1, 0, 0, 0, 0, 0, 0]) (by kernel_rfl)) n2) (by kernel_rfl) ?_)))))⟩
  rw [k2]
  exact (emb_rws.gEq (by decide) _ _).trans (by simp)
end Pf

set_option Elab.async false
set_option linter.all false
set_option maxRecDepth 100000
open PySem PySem.W PyProof.Rows
set_option maxHeartbeats 0 in
theorem PySem.Challenge.cw_eightroots_k51_whole_halves_of_rows_and_holds : PySem.Challenge.rw_eightroots_k51_whole_halves_of_rows_and.Holds := by
  w_on; o_law; k_head; (case hw => w_witness2)
  k_fill
  refine L2.walk_of (l := PySem.Challenge.rw_eightroots_k51_whole_halves_of_rows_and) (n := 63) (k := 6) (x := "script") (CX := fun w => L2.CX PySem.Challenge.rw_eightroots_k51_whole_halves_of_rows_and.prog w) (sp := fun w => Pf.spLaw _) rfl (by decide) rfl ⟨rfl, by decide, by decide⟩ (fun w h Y => PySem.W.kIn_of Y) ?F (fun _ _ a ns hl _ hS => ⟨a, ns, rfl, hS, hl, fun _ => rfl⟩) (fun _ _ _ _ _ ⟨_, _, _, _, _, _, _, _, _, _, _, _, h⟩ => h)
  case F =>
    intro w mg fa h KX G hmg
    refine' Pf.all_mk KX G hmg ?a0 ?l0 ?c0 ?k0 ?a1 ?l1 ?c1 ?k1 ?a2 ?l2 ?c2 ?k2 ?a3 ?l3 ?c3 ?k3 ?a4 ?l4 ?c4 ?k4 ?a5 ?l5 ?c5 ?k5 ?a6 ?l6 ?c6 ?k6 ?a7 ?l7 ?c7 ?k7 ?a8 ?l8 ?c8 ?k8 ?a9 ?l9 ?c9 ?k9 ?a10 ?l10 ?c10 ?k10 ?a11 ?l11 ?c11 ?k11 ?a12 ?l12 ?c12 ?k12 ?a13 ?l13 ?c13 ?k13 ?a14 ?l14 ?c14 ?k14 ?a15 ?l15 ?c15 ?k15 ?a16 ?l16 ?c16 ?k16 ?a17 ?l17 ?c17 ?k17 ?a18 ?l18 ?c18 ?k18 ?a19 ?l19 ?c19 ?k19 ?a20 ?l20 ?c20 ?k20 ?a21 ?l21 ?c21 ?k21 ?a22 ?l22 ?c22 ?k22 ?a23 ?l23 ?c23 ?k23 ?a24 ?l24 ?c24 ?k24 ?a25 ?l25 ?c25 ?k25 ?a26 ?l26 ?c26 ?k26 ?a27 ?l27 ?c27 ?k27 ?a28 ?l28 ?c28 ?k28 ?z_any ?z_sum ?z_len ?z_enumerate ?z_zip ?z_range ?z_sorted ?z_list ?z_min ?z_abs ?z_int ?y_SIZE ?y_MOST_NUMBER ?y_RESIDUES ?r_RESIDUES Pf.law_true
    (case a0 => k_is); (case l0 => k_is); (case c0 => k_is); (case k0 => k_is); (case a1 => k_is); (case l1 => k_is); (case c1 => k_is); (case k1 => k_is); (case a2 => k_is); (case l2 => k_is); (case c2 => k_is); (case k2 => k_is); (case a3 => k_is); (case l3 => k_is); (case c3 => k_is); (case k3 => k_is); (case a4 => k_is); (case l4 => k_is); (case c4 => k_is); (case k4 => k_is); (case a5 => k_is); (case l5 => k_is); (case c5 => k_is); (case k5 => k_is); (case a6 => k_is); (case l6 => k_is); (case c6 => k_is); (case k6 => k_is); (case a7 => k_is); (case l7 => k_is); (case c7 => k_is); (case k7 => k_is); (case a8 => k_is); (case l8 => k_is); (case c8 => k_is); (case k8 => k_is); (case a9 => k_is); (case l9 => k_is); (case c9 => k_is); (case k9 => k_is); (case a10 => k_is); (case l10 => k_is); (case c10 => k_is); (case k10 => k_is); (case a11 => k_is); (case l11 => k_is); (case c11 => k_is); (case k11 => k_is); (case a12 => k_is); (case l12 => k_is); (case c12 => k_is); (case k12 => k_is); (case a13 => k_is); (case l13 => k_is); (case c13 => k_is); (case k13 => k_is); (case a14 => k_is); (case l14 => k_is); (case c14 => k_is); (case k14 => k_is); (case a15 => k_is); (case l15 => k_is); (case c15 => k_is); (case k15 => k_is); (case a16 => k_is); (case l16 => k_is); (case c16 => k_is); (case k16 => k_is); (case a17 => k_is); (case l17 => k_is); (case c17 => k_is); (case k17 => k_is); (case a18 => k_is); (case l18 => k_is); (case c18 => k_is); (case k18 => k_is); (case a19 => k_is); (case l19 => k_is); (case c19 => k_is); (case k19 => k_is); (case a20 => k_is); (case l20 => k_is); (case c20 => k_is); (case k20 => k_is); (case a21 => k_is); (case l21 => k_is); (case c21 => k_is); (case k21 => k_is); (case a22 => k_is); (case l22 => k_is); (case c22 => k_is); (case k22 => k_is); (case a23 => k_is); (case l23 => k_is); (case c23 => k_is); (case k23 => k_is); (case a24 => k_is); (case l24 => k_is); (case c24 => k_is); (case k24 => k_is); (case a25 => k_is); (case l25 => k_is); (case c25 => k_is); (case k25 => k_is); (case a26 => k_is); (case l26 => k_is); (case c26 => k_is); (case k26 => k_is); (case a27 => k_is); (case l27 => k_is); (case c27 => k_is); (case k27 => k_is); (case a28 => k_is); (case l28 => k_is); (case c28 => k_is); (case k28 => k_is); (case z_any => k_is); (case z_sum => k_is); (case z_len => k_is); (case z_enumerate => k_is); (case z_zip => k_is); (case z_range => k_is); (case z_sorted => k_is); (case z_list => k_is); (case z_min => k_is); (case z_abs => k_is); (case z_int => k_is); (case y_SIZE => k_is); (case y_MOST_NUMBER => k_is); (case y_RESIDUES => k_is); (case r_RESIDUES => kernel_rfl)
