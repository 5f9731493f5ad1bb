import PyProof.Rows.All
import Wide.All
import OpenK.AllK
import Wide.FinOn
import HandS.ForMost
import HandS.Deep
import HandS.Exc
import HandS.ExcOwn
import HandS.WordsExc
import HandS.Style
import HandS.IsInst
import KE.SortCalls
import KE.DataCmp
import KE.DataMinMax
import HandS.Dict
import HandS.Small
import HandS.TupLe
import HandS.SetFor
import KE.KDictSum
import KE.KDictCopyH
import PySem.Challenge.RW_eightroots_k16_whole_rests_by_twos
import PyProof.P3Eq
set_option Elab.async false
set_option linter.all false
set_option maxRecDepth 100000
set_option maxHeartbeats 4000000
namespace Pf
open PySem PySem.Spec PyProof.Rows L2

/-! ## plain data, the feed, outcomes -/
inductive D where
  | non | bl (b : Bool) | int (i : Int) | str (x : Str)
  | lst (l : List D) | tup (l : List D)
  | dk (l : List (Key × D)) | dt (l : List (List Key × D))
  | feed | exn (c : Str) (l : List D)

/-- can it be changed in place -/
def D.mt : D → Bool
  | .lst _ => true
  | .dk _ => true
  | .dt _ => true
  | _ => false

structure Fd where
  cells : List Int
  pos : Int
  told : Int
  st : Int

structure Fd.Ok (φ : Fd) : Prop where
  n : φ.cells.length ≤ 63
  a0 : 0 ≤ φ.pos
  a1 : φ.pos ≤ φ.cells.length
  t0 : 0 ≤ φ.told
  s0 : 0 ≤ φ.st
  s1 : φ.st < 2147483647

inductive O (α : Type) where
  | ok (a : α) (φ : Fd)
  | ex (c : Str) (l : List D) (φ : Fd)
  | bad

@[inline] def O.bind {α β : Type} (x : O α) (k : α → Fd → O β) : O β :=
  match x with
  | .ok a φ => k a φ
  | .ex c l φ => .ex c l φ
  | .bad => .bad
def ofO {α : Type} (o : Option α) (φ : Fd) : O α :=
  match o with
  | some a => .ok a φ
  | none => .bad

abbrev En := List (Option D)
/-- what an expression does -/
abbrev SX := En → Fd → O D
/-- what a def does -/
abbrev Fn := List D → Fd → O D

/-! ## how data lies in the heap -/
mutual
inductive Rep (K : PySem.W.Frag) (f : Addr) (Z : Hp) : V → D → Prop
  | non : Rep K f Z .non .non
  | bl (b : Bool) : Rep K f Z (.bl b) (.bl b)
  | int (i : Int) : Rep K f Z (.int i) (.int i)
  | str (x : Str) : Rep K f Z (.str x) (.str x)
  | cel {a : Addr} {o : HO} {d : D} : Z a = some o → RepC K f Z o d → Rep K f Z (.ref a) d
  | tup {a : Addr} {vs : List V} {ds : List D} : SqT K Z a vs → Reps K f Z vs ds → Rep K f Z (.ref a) (.tup ds)
  | feed : Rep K f Z (.ref f) .feed
inductive RepC (K : PySem.W.Frag) (f : Addr) (Z : Hp) : HO → D → Prop
  | lst {vs : List V} {ds : List D} : Reps K f Z vs ds → RepC K f Z (.lst vs) (.lst ds)
  | dk {kvs : List (Key × V)} {ds : List (Key × D)} : KReps K f Z kvs ds → RepC K f Z (.dK kvs) (.dk ds)
  | dt {kvs : List (List Key × V)} {ds : List (List Key × D)} : TReps K f Z kvs ds → RepC K f Z (.dT kvs) (.dt ds)
inductive Reps (K : PySem.W.Frag) (f : Addr) (Z : Hp) : List V → List D → Prop
  | nil : Reps K f Z [] []
  | cons {v : V} {d : D} {vs : List V} {ds : List D} : Rep K f Z v d → Reps K f Z vs ds → Reps K f Z (v :: vs) (d :: ds)
inductive KReps (K : PySem.W.Frag) (f : Addr) (Z : Hp) : List (Key × V) → List (Key × D) → Prop
  | nil : KReps K f Z [] []
  | cons {k : Key} {v : V} {d : D} {r : List (Key × V)} {s : List (Key × D)} : Rep K f Z v d → KReps K f Z r s → KReps K f Z ((k, v) :: r) ((k, d) :: s)
inductive TReps (K : PySem.W.Frag) (f : Addr) (Z : Hp) : List (List Key × V) → List (List Key × D) → Prop
  | nil : TReps K f Z [] []
  | cons {k : List Key} {v : V} {d : D} {r : List (List Key × V)} {s : List (List Key × D)} : Rep K f Z v d → TReps K f Z r s → TReps K f Z ((k, v) :: r) ((k, d) :: s)
end

section
variable {K : PySem.W.Frag} {f : Addr} {Z Z' : Hp}
theorem sqT_mono (h : ∀ a o, Z a = some o → Z' a = some o) {a : Addr} {vs : List V} (q : SqT K Z a vs) : SqT K Z' a vs := by
  rcases q with (q | ⟨o, q⟩) | q
  · exact .inl (.inl (h _ _ q))
  · exact .inl (.inr ⟨o, h _ _ q⟩)
  · exact .inr q
mutual
theorem Rep.mono (h : ∀ a o, Z a = some o → Z' a = some o) : ∀ {v : V} {d : D}, Rep K f Z v d → Rep K f Z' v d
  | _, _, .non => .non
  | _, _, .bl b => .bl b
  | _, _, .int i => .int i
  | _, _, .str x => .str x
  | _, _, .cel e r => .cel (h _ _ e) (r.mono h)
  | _, _, .tup e r => .tup (sqT_mono h e) (r.mono h)
  | _, _, .feed => .feed
theorem RepC.mono (h : ∀ a o, Z a = some o → Z' a = some o) : ∀ {v : HO} {d : D}, RepC K f Z v d → RepC K f Z' v d
  | _, _, .lst r => .lst (r.mono h)
  | _, _, .dk r => .dk (r.mono h)
  | _, _, .dt r => .dt (r.mono h)
theorem Reps.mono (h : ∀ a o, Z a = some o → Z' a = some o) : ∀ {v : List V} {d : List D}, Reps K f Z v d → Reps K f Z' v d
  | _, _, .nil => .nil
  | _, _, .cons r s => .cons (r.mono h) (s.mono h)
theorem KReps.mono (h : ∀ a o, Z a = some o → Z' a = some o) : ∀ {v : List (Key × V)} {d : List (Key × D)}, KReps K f Z v d → KReps K f Z' v d
  | _, _, .nil => .nil
  | _, _, .cons r s => .cons (r.mono h) (s.mono h)
theorem TReps.mono (h : ∀ a o, Z a = some o → Z' a = some o) : ∀ {v : List (List Key × V)} {d : List (List Key × D)}, TReps K f Z v d → TReps K f Z' v d
  | _, _, .nil => .nil
  | _, _, .cons r s => .cons (r.mono h) (s.mono h)
end
theorem Reps.length : ∀ {v : List V} {d : List D}, Reps K f Z v d → v.length = d.length
  | _, _, .nil => rfl
  | _, _, .cons _ s => by simp [s.length]
theorem Reps.app : ∀ {v : List V} {d : List D} {v' : List V} {d' : List D}, Reps K f Z v d → Reps K f Z v' d' → Reps K f Z (v ++ v') (d ++ d')
  | _, _, _, _, .nil, s => s
  | _, _, _, _, .cons r t, s => .cons r (t.app s)
theorem Reps.get : ∀ {v : List V} {d : List D} {i : Nat} {x : D}, Reps K f Z v d → d[i]? = some x → ∃ y, v[i]? = some y ∧ Rep K f Z y x
  | _, _, _, _, .nil, e => by simp at e
  | _, _, 0, _, .cons r _, e => by simp at e; subst e; exact ⟨_, rfl, r⟩
  | _, _, i + 1, x, .cons _ t, e => by
    obtain ⟨y, h1, h2⟩ := Reps.get (i := i) (x := x) t (by simpa using e)
    exact ⟨y, by simpa using h1, h2⟩
theorem Reps.getV : ∀ {v : List V} {d : List D} {i : Nat} {y : V}, Reps K f Z v d → v[i]? = some y → ∃ x, d[i]? = some x ∧ Rep K f Z y x
  | _, _, _, _, .nil, e => by simp at e
  | _, _, 0, _, .cons r _, e => by simp at e; subst e; exact ⟨_, rfl, r⟩
  | _, _, i + 1, x, .cons _ t, e => by
    obtain ⟨y, h1, h2⟩ := Reps.getV (i := i) (y := x) t (by simpa using e)
    exact ⟨y, by simpa using h1, h2⟩
theorem Reps.set {y : V} {x : D} (r : Rep K f Z y x) : ∀ {v : List V} {d : List D} (i : Nat), Reps K f Z v d → Reps K f Z (v.set i y) (d.set i x)
  | _, _, _, .nil => .nil
  | _, _, 0, .cons _ t => .cons r t
  | _, _, i + 1, .cons q t => .cons q (t.set r i)
theorem Reps.take : ∀ {v : List V} {d : List D} (n : Nat), Reps K f Z v d → Reps K f Z (v.take n) (d.take n)
  | _, _, 0, _ => .nil
  | _, _, _ + 1, .nil => .nil
  | _, _, n + 1, .cons r t => .cons r (t.take n)
theorem Reps.drop : ∀ {v : List V} {d : List D} (n : Nat), Reps K f Z v d → Reps K f Z (v.drop n) (d.drop n)
  | _, _, 0, r => r
  | _, _, _ + 1, .nil => .nil
  | _, _, n + 1, .cons _ t => t.drop n
theorem Reps.erase : ∀ {v : List V} {d : List D} (n : Nat), Reps K f Z v d → Reps K f Z (v.eraseIdx n) (d.eraseIdx n)
  | _, _, _, .nil => .nil
  | _, _, 0, .cons _ t => t
  | _, _, n + 1, .cons r t => .cons r (t.erase n)
theorem Reps.rev {v : List V} {d : List D} (h : Reps K f Z v d) : Reps K f Z v.reverse d.reverse := by
  induction v generalizing d with
  | nil => cases h; exact .nil
  | cons x v ih =>
    cases h with
    | cons r s => simpa using (ih s).app (.cons r .nil)
theorem Reps.ints : ∀ (ns : List Int), Reps K f Z (ns.map V.int) (ns.map D.int)
  | [] => .nil
  | n :: r => .cons (.int n) (Reps.ints r)
/-- ints back -/
theorem Reps.ints_inv : ∀ {v : List V} {ns : List Int}, Reps K f Z v (ns.map D.int) → v = ns.map V.int
  | _, [], h => by cases h; rfl
  | _, n :: r, h => by
    cases h with
    | cons a b =>
      cases a with
      | int => rw [Reps.ints_inv b]; rfl
      | cel _ q => cases q
end

/-! ## extension, well-formedness -/
/-- the feed's list of cells is the same -/
def FdR (o o' : HO) : Prop := o' = o ∨ ∃ a vs us, o = .lst (.ref a :: vs) ∧ o' = .lst (.ref a :: us)
def FdK (f : Addr) (H H' : Hp) : Prop := ∀ o, H f = some o → ∃ o', H' f = some o' ∧ FdR o o'
theorem FdK.same {f : Addr} {H H' : Hp} (h : H' f = H f) : FdK f H H' := fun o e => ⟨o, h.trans e, .inl rfl⟩
theorem FdK.refl {f : Addr} {H : Hp} : FdK f H H := .same rfl
theorem FdK.trans {f : Addr} {H H1 H2 : Hp} (a : FdK f H H1) (b : FdK f H1 H2) : FdK f H H2 := fun o e => by
  obtain ⟨o1, e1, r1⟩ := a o e
  obtain ⟨o2, e2, r2⟩ := b o1 e1
  refine ⟨o2, e2, ?_⟩
  rcases r1 with rfl | ⟨x, vs, us, rfl, rfl⟩
  · exact r2
  · rcases r2 with rfl | ⟨x', vs', us', h1, h2⟩
    · exact .inr ⟨x, vs, us, rfl, rfl⟩
    · cases h1
      exact .inr ⟨x, vs, us', rfl, h2⟩
structure Ext (f : Addr) (Z H Z' H' : Hp) : Prop where
  z : ∀ a o, Z a = some o → Z' a = some o
  h : ∀ a o, a ≠ f → H a = some o → H' a = some o
  k : ∀ a, H a ≠ none → H' a ≠ none
  n : ∀ a, H a ≠ none → Z a = none → Z' a = none
  d : FdK f H H'
theorem Ext.refl {f : Addr} {Z H : Hp} : Ext f Z H Z H := ⟨fun _ _ h => h, fun _ _ _ h => h, fun _ h => h, fun _ _ h => h, .refl⟩
theorem Ext.trans {f : Addr} {Z H Z1 H1 Z2 H2 : Hp} (a : Ext f Z H Z1 H1) (b : Ext f Z1 H1 Z2 H2) : Ext f Z H Z2 H2 :=
  ⟨fun x o h => b.z x o (a.z x o h), fun x o hx h => b.h x o hx (a.h x o hx h), fun x h => b.k x (a.k x h), fun x h hz => b.n x (a.k x h) (a.n x h hz), a.d.trans b.d⟩

/-- where the feed lies; or: there is no feed (told below 0), f is any cell -/
def FeedZ (Z : Hp) (φ : Fd) (s : Addr × HO) : Prop := (φ.told < 0 ∧ ∀ a l, s.2 ≠ .lst (.ref a :: l)) ∨ (Z s.1 = some (.lst (φ.cells.map V.int)) ∧ s.2 = .lst [.ref s.1, .int φ.pos, .int φ.told, .int φ.st])
theorem FeedZ.mono {Z Z' : Hp} {φ : Fd} {s : Addr × HO} (h : ∀ a o, Z a = some o → Z' a = some o) (q : FeedZ Z φ s) : FeedZ Z' φ s := by
  rcases q with q | ⟨q1, q2⟩
  · exact .inl q
  · exact .inr ⟨h _ _ q1, q2⟩
structure Wf (K : PySem.W.Frag) (f : Addr) (Z H : Hp) (φ : Fd) : Prop where
  sub : ∀ a o, Z a = some o → H a = some o
  zf : Z f = none
  feed : ∃ s : Addr × HO, FeedZ Z φ s ∧ H f = some s.2
  ok : 0 ≤ φ.told → φ.Ok
theorem Wf.hf {K : PySem.W.Frag} {f : Addr} {Z H : Hp} {φ : Fd} (w : Wf K f Z H φ) : H f ≠ none := by
  obtain ⟨s, _, h⟩ := w.feed
  rw [h]; simp

inductive Md where | o | s | p | d (n : Nat)
  deriving DecidableEq
/-- lists down to the depth n are new since H0 -/
def Nw (H0 Z : Hp) : Nat → V → D → Prop
  | 0, _, _ => True
  | n + 1, v, .lst ds => ∃ a vs, v = .ref a ∧ Z a = some (.lst vs) ∧ H0 a = none ∧ ∀ (i : Nat) u e, vs[i]? = some u → ds[i]? = some e → Nw H0 Z n u e
  | _ + 1, _, _ => True
theorem Nw.mono {H0 Z Z' : Hp} (h : ∀ a o, Z a = some o → Z' a = some o) : ∀ {n : Nat} {v : V} {d : D}, Nw H0 Z n v d → Nw H0 Z' n v d
  | 0, _, _, _ => trivial
  | n + 1, v, .lst ds, ⟨a, vs, e, hz, h0, k⟩ => ⟨a, vs, e, h _ _ hz, h0, fun i u e' h1 h2 => Nw.mono h (k i u e' h1 h2)⟩
  | _ + 1, _, .non, _ => trivial
  | _ + 1, _, .bl _, _ => trivial
  | _ + 1, _, .int _, _ => trivial
  | _ + 1, _, .str _, _ => trivial
  | _ + 1, _, .tup _, _ => trivial
  | _ + 1, _, .dk _, _ => trivial
  | _ + 1, _, .dt _, _ => trivial
  | _ + 1, _, .feed, _ => trivial
  | _ + 1, _, .exn _ _, _ => trivial
theorem Nw.start {H0 H1 Z : Hp} (k : ∀ a, H0 a ≠ none → H1 a ≠ none) : ∀ {n : Nat} {v : V} {d : D}, Nw H1 Z n v d → Nw H0 Z n v d
  | 0, _, _, _ => trivial
  | n + 1, v, .lst ds, ⟨a, vs, e, hz, h0, q⟩ => ⟨a, vs, e, hz, Classical.byContradiction fun h => k a h h0, fun i u e' h1 h2 => Nw.start k (q i u e' h1 h2)⟩
  | _ + 1, _, .non, _ => trivial
  | _ + 1, _, .bl _, _ => trivial
  | _ + 1, _, .int _, _ => trivial
  | _ + 1, _, .str _, _ => trivial
  | _ + 1, _, .tup _, _ => trivial
  | _ + 1, _, .dk _, _ => trivial
  | _ + 1, _, .dt _, _ => trivial
  | _ + 1, _, .feed, _ => trivial
  | _ + 1, _, .exn _ _, _ => trivial
theorem Nw.flat {H0 Z : Hp} {n : Nat} {v : V} {d : D} (h : d.mt = false) : Nw H0 Z n v d := by
  cases n with
  | zero => trivial
  | succ n => cases d <;> first | trivial | cases h
/-- an own cell at v: not frozen -/
def OwnC (K : PySem.W.Frag) (Z H : Hp) (f : Addr) (v : V) (d : D) : Prop := ∃ a o, v = .ref a ∧ Z a = none ∧ a ≠ f ∧ H a = some o ∧ RepC K f Z o d
/-- a result: fresh where it can be changed (o), frozen (s), either (p); H0: the heap at the start -/
def Res (m : Md) (K : PySem.W.Frag) (f : Addr) (H0 Z H : Hp) (v : V) (d : D) : Prop :=
  match m with
  | .s => Rep K f Z v d
  | .p => Rep K f Z v d ∨ OwnC K Z H f v d
  | .o => if d.mt = true then ∃ a o, v = .ref a ∧ H0 a = none ∧ Z a = none ∧ a ≠ f ∧ H a = some o ∧ RepC K f Z o d else Rep K f Z v d
  | .d n => Rep K f Z v d ∧ Nw H0 Z n v d

section
variable {K : PySem.W.Frag} {f : Addr} {Z H Z' H' H0 : Hp} {v : V} {d : D}
theorem OwnC.mono (r : OwnC K Z H f v d) (e : Ext f Z H Z' H') : OwnC K Z' H' f v d := by
  obtain ⟨a, o, rfl, hz, hf, ha, rc⟩ := r
  exact ⟨a, o, rfl, e.n a (by rw [ha]; simp) hz, hf, e.h a o hf ha, rc.mono e.z⟩
theorem Res.pmono (r : Res .p K f H0 Z H v d) (e : Ext f Z H Z' H') : Res .p K f H0 Z' H' v d := by
  rcases r with r | r
  · exact .inl (r.mono e.z)
  · exact .inr (r.mono e)
theorem Res.s2p (r : Rep K f Z v d) : Res .p K f H0 Z H v d := .inl r
theorem Res.o2p (r : Res .o K f H0 Z H v d) : Res .p K f H0 Z H v d := by
  by_cases hm : d.mt = true
  · unfold Res at r
    rw [if_pos hm] at r
    obtain ⟨a, o, rfl, _, hz, hf, ha, rc⟩ := r
    exact .inr ⟨a, o, rfl, hz, hf, ha, rc⟩
  · unfold Res at r
    rw [if_neg hm] at r
    exact .inl r
theorem Res.start {m : Md} {H1 : Hp} (r : Res m K f H1 Z H v d) (k : ∀ a, H0 a ≠ none → H1 a ≠ none) : Res m K f H0 Z H v d := by
  cases m with
  | s => exact r
  | p => exact r
  | d n => exact ⟨r.1, r.2.start k⟩
  | o =>
    by_cases hm : d.mt = true
    · unfold Res at r ⊢
      rw [if_pos hm] at r ⊢
      obtain ⟨a, o, e, h0, q⟩ := r
      refine ⟨a, o, e, ?_, q⟩
      cases hh : H0 a with
      | none => rfl
      | some x => exact absurd h0 (k a (by rw [hh]; simp))
    · unfold Res at r ⊢
      rw [if_neg hm] at r ⊢
      exact r
/-- data that is not changed is frozen in every mode -/
theorem Res.flat {m : Md} (r : Res m K f H0 Z H v d) (h : d.mt = false) : Rep K f Z v d := by
  cases m with
  | s => exact r
  | d n => exact r.1
  | p =>
    rcases r with r | ⟨a, o, _, _, _, _, rc⟩
    · exact r
    · cases rc <;> cases h
  | o =>
    unfold Res at r
    rw [if_neg (by rw [h]; simp)] at r
    exact r
theorem Res.of_flat {m : Md} (r : Rep K f Z v d) (h : d.mt = false) : Res m K f H0 Z H v d := by
  cases m with
  | s => exact r
  | d n => exact ⟨r, .flat h⟩
  | p => exact .inl r
  | o =>
    unfold Res
    rw [if_neg (by rw [h]; simp)]
    exact r
end
/-! what a p-result is, by its data -/
section
variable {K : PySem.W.Frag} {f : Addr} {Z H H0 : Hp} {v : V} {φ : Fd}
theorem Res.int {m : Md} {i : Int} (r : Res m K f H0 Z H v (.int i)) : v = .int i := by
  cases r.flat rfl with
  | int => rfl
  | cel _ q => cases q
theorem Res.bl {m : Md} {i : Bool} (r : Res m K f H0 Z H v (.bl i)) : v = .bl i := by
  cases r.flat rfl with
  | bl => rfl
  | cel _ q => cases q
theorem Res.str {m : Md} {i : Str} (r : Res m K f H0 Z H v (.str i)) : v = .str i := by
  cases r.flat rfl with
  | str => rfl
  | cel _ q => cases q
theorem Res.non {m : Md} (r : Res m K f H0 Z H v .non) : v = .non := by
  cases r.flat rfl with
  | non => rfl
  | cel _ q => cases q
theorem Res.feed {m : Md} (r : Res m K f H0 Z H v .feed) : v = .ref f := by
  cases r.flat rfl with
  | feed => rfl
  | cel _ q => cases q
theorem Res.tup {m : Md} {ds : List D} (r : Res m K f H0 Z H v (.tup ds)) : ∃ a vs, v = .ref a ∧ SqT K Z a vs ∧ Reps K f Z vs ds := by
  cases r.flat rfl with
  | tup e q => exact ⟨_, _, rfl, e, q⟩
  | cel _ q => cases q
theorem Wf.sqT (w : Wf K f Z H φ) {a : Addr} {vs : List V} (q : SqT K Z a vs) : SqT K H a vs := sqT_mono w.sub q
/-- a list: a tracked cell -/
theorem Res.lst (r : Res .p K f H0 Z H v (.lst ds)) (w : Wf K f Z H φ) : ∃ a vs, v = .ref a ∧ H a = some (.lst vs) ∧ Reps K f Z vs ds := by
  rcases r with r | ⟨a, o, rfl, hz, hf, ha, rc⟩
  · cases r with
    | cel e q =>
      cases q with
      | lst q => exact ⟨_, _, rfl, w.sub _ _ e, q⟩
  · cases rc with
    | lst q => exact ⟨a, _, rfl, ha, q⟩
theorem Res.dk (r : Res .p K f H0 Z H v (.dk ds)) (w : Wf K f Z H φ) : ∃ a vs, v = .ref a ∧ H a = some (.dK vs) ∧ KReps K f Z vs ds := by
  rcases r with r | ⟨a, o, rfl, hz, hf, ha, rc⟩
  · cases r with
    | cel e q =>
      cases q with
      | dk q => exact ⟨_, _, rfl, w.sub _ _ e, q⟩
  · cases rc with
    | dk q => exact ⟨a, _, rfl, ha, q⟩
theorem Res.dt (r : Res .p K f H0 Z H v (.dt ds)) (w : Wf K f Z H φ) : ∃ a vs, v = .ref a ∧ H a = some (.dT vs) ∧ TReps K f Z vs ds := by
  rcases r with r | ⟨a, o, rfl, hz, hf, ha, rc⟩
  · cases r with
    | cel e q =>
      cases q with
      | dt q => exact ⟨_, _, rfl, w.sub _ _ e, q⟩
  · cases rc with
    | dt q => exact ⟨a, _, rfl, ha, q⟩
end
end Pf

set_option Elab.async false
set_option linter.all false
set_option maxRecDepth 100000
set_option maxHeartbeats 4000000
namespace Pf
open PySem PySem.Spec PyProof.Rows L2

/-! ## the state of a def's body -/
/-- fixed through a def's body: the written part, the feed, the frozen part and the heap at the entry; exceptions' classes by name with their field -/
structure Ct where
  K : PySem.W.Frag
  f : Addr
  Z : Hp
  H : Hp
  cls : Str → Option (Addr × List Str)
  s0 : L2.St
  r0 : En
/-- how a slot stands: o own, fresh; s frozen; p as it stood at the start, to be looked at; r as it stood at the start, frozen -/
inductive Ms where | o | s | p | r
  deriving DecidableEq

/-- how an exception lies -/
def XRep (c : Ct) (Z H : Hp) (x : Str) (l : List D) (cls : Value) (dx : Option Addr) : Prop :=
  ∃ C fs, c.cls x = some (C, fs) ∧ cls = .ref C ∧ ∃ vs, Reps c.K c.f Z vs l ∧ vs.length = fs.length ∧
    (fs = [] ∨ ∃ d, dx = some d ∧ d ≠ c.f ∧ H d = some (.xd (fs.zip vs)))

structure Rl (c : Ct) (own : List Ms) (Z : Hp) (ρ : En) (φ : Fd) (σ : L2.St) (H : Hp) : Prop where
  wf : Wf c.K c.f Z H φ
  ext : Ext c.f c.Z c.H Z H
  len : σ.length = ρ.length
  sh : ∀ (i : Nat) (d : D), ρ[i]? = some (some d) → own[i]? ≠ some .o → own[i]? ≠ some .p → ∃ v, σ[i]? = some (some v) ∧ Rep c.K c.f Z v d
  ow : ∀ (i : Nat) (d : D), ρ[i]? = some (some d) → own[i]? = some .o → ∃ v, σ[i]? = some (some v) ∧ Res .o c.K c.f c.H Z H v d
  ne : ∀ (i j : Nat) (a : Addr) (d e : D), i ≠ j → own[i]? = some .o → own[j]? = some .o → ρ[i]? = some (some d) → d.mt = true → ρ[j]? = some (some e) → e.mt = true →
    σ[i]? = some (some (.ref a)) → σ[j]? = some (some (.ref a)) → False
  pn : ∀ (i : Nat) (d : D), ρ[i]? = some (some d) → own[i]? = some .p ∨ own[i]? = some .r → c.r0[i]? = some (some d) ∧ σ[i]? = c.s0[i]?
  pk : ∀ (i : Nat) (d : D), ρ[i]? = some (some d) → own[i]? = some .p → ∃ v, σ[i]? = some (some v) ∧ Res .p c.K c.f c.H c.Z c.H v d

section
variable {c : Ct} {own : List Ms} {Z Z' : Hp} {ρ : En} {φ φ' : Fd} {σ : L2.St} {H H' : Hp}
/-- a variable, in any case to look at -/
theorem Rl.look (R : Rl c own Z ρ φ σ H) {i : Nat} {d : D} (e : ρ[i]? = some (some d)) : ∃ v, σ[i]? = some (some v) ∧ Res .p c.K c.f H Z H v d := by
  by_cases h : own[i]? = some .o
  · obtain ⟨v, e1, r⟩ := R.ow i d e h
    exact ⟨v, e1, r.o2p⟩
  · by_cases h' : own[i]? = some .p
    · obtain ⟨v, e1, r⟩ := R.pk i d e h'
      exact ⟨v, e1, (show Res .p c.K c.f H c.Z c.H v d from r).pmono R.ext⟩
    · obtain ⟨v, e1, r⟩ := R.sh i d e h h'
      exact ⟨v, e1, .inl r⟩
theorem Rl.more (R : Rl c own Z ρ φ σ H) (e : Ext c.f Z H Z' H') (w : Wf c.K c.f Z' H' φ') : Rl c own Z' ρ φ' σ H' := by
  refine ⟨w, R.ext.trans e, R.len, fun i d h1 h2 h3 => ?_, fun i d h1 h2 => ?_, R.ne, R.pn, R.pk⟩
  · obtain ⟨v, e1, r⟩ := R.sh i d h1 h2 h3
    exact ⟨v, e1, r.mono e.z⟩
  · obtain ⟨v, e1, r⟩ := R.ow i d h1 h2
    refine ⟨v, e1, ?_⟩
    by_cases hm : d.mt = true
    · unfold Res at r ⊢
      rw [if_pos hm] at r ⊢
      obtain ⟨a, o, rfl, h0, hz, hf, ha, rc⟩ := r
      exact ⟨a, o, rfl, h0, e.n a (by rw [ha]; simp) hz, hf, e.h a o hf ha, rc.mono e.z⟩
    · unfold Res at r ⊢
      rw [if_neg hm] at r ⊢
      exact r.mono e.z
end

/-! ## an outcome's wish -/
def Post (c : Ct) (m : Md) (W : WX) (o : O D) (σ : L2.St) (Z H : Hp) (Q : VK) : Prop :=
  match o with
  | .ok d φ => ∀ v Z' H', Ext c.f Z H Z' H' → Wf c.K c.f Z' H' φ → Res m c.K c.f H Z' H' v d → Q v H'
  | .ex x l φ => ∀ cls dx Z' H', Ext c.f Z H Z' H' → Wf c.K c.f Z' H' φ → XRep c Z' H' x l cls dx → W cls dx σ H'
  | .bad => False
/-- an expression's reading by what it does -/
def tE (c : Ct) (own : List Ms) (m : Md) (W : WX) (A : SX) : TE := fun σ H Q => ∃ Z ρ φ, Rl c own Z ρ φ σ H ∧ Post c m W (A ρ φ) σ Z H Q
/-- an argument list's -/
abbrev SA := En → Fd → O (List D)
def RAll (m : Md) (K : PySem.W.Frag) (f : Addr) (H0 Z H : Hp) : List V → List D → Prop
  | [], [] => True
  | v :: vs, d :: ds => Res m K f H0 Z H v d ∧ RAll m K f H0 Z H vs ds
  | _, _ => False
theorem RAll.pmono {K : PySem.W.Frag} {f : Addr} {H0 Z H Z' H' : Hp} (e : Ext f Z H Z' H') : ∀ {vs : List V} {ds : List D}, RAll .p K f H0 Z H vs ds → RAll .p K f H0 Z' H' vs ds
  | [], [], _ => trivial
  | _ :: _, _ :: _, h => ⟨h.1.pmono e, RAll.pmono e h.2⟩
theorem RAll.smono {K : PySem.W.Frag} {f : Addr} {H0 Z H Z' H' H1 : Hp} (e : Ext f Z H Z' H') : ∀ {vs : List V} {ds : List D}, RAll .s K f H0 Z H vs ds → RAll .s K f H1 Z' H' vs ds
  | [], [], _ => trivial
  | _ :: _, _ :: _, h => ⟨Rep.mono e.z h.1, RAll.smono e h.2⟩
theorem RAll.start {m : Md} {K : PySem.W.Frag} {f : Addr} {H0 H1 Z H : Hp} (k : ∀ a, H0 a ≠ none → H1 a ≠ none) : ∀ {vs : List V} {ds : List D}, RAll m K f H1 Z H vs ds → RAll m K f H0 Z H vs ds
  | [], [], _ => trivial
  | _ :: _, _ :: _, h => ⟨h.1.start k, RAll.start k h.2⟩
theorem RAll.reps {K : PySem.W.Frag} {f : Addr} {H0 Z H : Hp} : ∀ {vs : List V} {ds : List D}, RAll .s K f H0 Z H vs ds → Reps K f Z vs ds
  | [], [], _ => .nil
  | _ :: _, _ :: _, h => .cons h.1 (RAll.reps h.2)
theorem RAll.length {m : Md} {K : PySem.W.Frag} {f : Addr} {H0 Z H : Hp} : ∀ {vs : List V} {ds : List D}, RAll m K f H0 Z H vs ds → vs.length = ds.length
  | [], [], _ => rfl
  | _ :: _, _ :: _, h => by simp [RAll.length h.2]
def PostA (c : Ct) (m : Md) (W : WX) (o : O (List D)) (σ : L2.St) (Z H : Hp) (Q : List V → Hp → Prop) : Prop :=
  match o with
  | .ok d φ => ∀ v Z' H', Ext c.f Z H Z' H' → Wf c.K c.f Z' H' φ → RAll m c.K c.f H Z' H' v d → Q v H'
  | .ex x l φ => ∀ cls dx Z' H', Ext c.f Z H Z' H' → Wf c.K c.f Z' H' φ → XRep c Z' H' x l cls dx → W cls dx σ H'
  | .bad => False
def tA (c : Ct) (own : List Ms) (m : Md) (W : WX) (A : SA) : TA := fun σ H Q => ∃ Z ρ φ, Rl c own Z ρ φ σ H ∧ PostA c m W (A ρ φ) σ Z H Q
/-- a test's -/
abbrev SB := En → Fd → O Bool
def PostB (c : Ct) (W : WX) (o : O Bool) (σ : L2.St) (Z H : Hp) (Q : Bool → Hp → Prop) : Prop :=
  match o with
  | .ok d φ => ∀ Z' H', Ext c.f Z H Z' H' → Wf c.K c.f Z' H' φ → Q d H'
  | .ex x l φ => ∀ cls dx Z' H', Ext c.f Z H Z' H' → Wf c.K c.f Z' H' φ → XRep c Z' H' x l cls dx → W cls dx σ H'
  | .bad => False
def tB (c : Ct) (own : List Ms) (W : WX) (A : SB) : TT := fun σ H Q => ∃ Z ρ φ, Rl c own Z ρ φ σ H ∧ PostB c W (A ρ φ) σ Z H Q

section
variable {c : Ct} {own : List Ms} {m m1 : Md} {W : WX} {Z H Z1 H1 : Hp} {σ : L2.St}
theorem Post.shift {o : O D} {Q : VK} (e : Ext c.f Z H Z1 H1) (h : Post c m W o σ Z H Q) : Post c m W o σ Z1 H1 Q := by
  cases o with
  | ok d φ => exact fun v Z' H' e' w r => h v Z' H' (e.trans e') w (r.start e.k)
  | ex x l φ => exact fun cls dx Z' H' e' w r => h cls dx Z' H' (e.trans e') w r
  | bad => exact h
theorem PostA.shift {o : O (List D)} {Q : List V → Hp → Prop} (e : Ext c.f Z H Z1 H1) (h : PostA c m W o σ Z H Q) : PostA c m W o σ Z1 H1 Q := by
  cases o with
  | ok d φ => exact fun v Z' H' e' w r => h v Z' H' (e.trans e') w (r.start e.k)
  | ex x l φ => exact fun cls dx Z' H' e' w r => h cls dx Z' H' (e.trans e') w r
  | bad => exact h
theorem PostB.shift {o : O Bool} {Q : Bool → Hp → Prop} (e : Ext c.f Z H Z1 H1) (h : PostB c W o σ Z H Q) : PostB c W o σ Z1 H1 Q := by
  cases o with
  | ok d φ => exact fun Z' H' e' w => h Z' H' (e.trans e') w
  | ex x l φ => exact fun cls dx Z' H' e' w r => h cls dx Z' H' (e.trans e') w r
  | bad => exact h
/-- the wishes of an expression in the midst: E .. any of the three posts of what follows -/
theorem Post.bind {α : Type} {x : O D} {k : D → Fd → O α} {E : O α → Hp → Hp → Prop} {R : VK}
    (hE : ∀ (o : O α) Z1 H1, Ext c.f Z H Z1 H1 → E o Z H → E o Z1 H1) (hX : ∀ y l φ, E (.ex y l φ) Z H → ∀ cls dx Z' H', Ext c.f Z H Z' H' → Wf c.K c.f Z' H' φ → XRep c Z' H' y l cls dx → W cls dx σ H') (hB : ¬ E .bad Z H)
    (h : E (x.bind k) Z H) (hr : ∀ d φ1 v Z1 H1, Ext c.f Z H Z1 H1 → Wf c.K c.f Z1 H1 φ1 → Res m1 c.K c.f H Z1 H1 v d → E (k d φ1) Z1 H1 → R v H1) : Post c m1 W x σ Z H R := by
  cases x with
  | ok d φ => exact fun v Z' H' e w r => hr d φ v Z' H' e w r (hE _ _ _ e h)
  | ex y l φ => exact hX y l φ h
  | bad => exact hB h
theorem Post.bindE {x : O D} {k : D → Fd → O D} {Q R : VK} (h : Post c m W (x.bind k) σ Z H Q)
    (hr : ∀ d φ1 v Z1 H1, Ext c.f Z H Z1 H1 → Wf c.K c.f Z1 H1 φ1 → Res m1 c.K c.f H Z1 H1 v d → Post c m W (k d φ1) σ Z1 H1 Q → R v H1) : Post c m1 W x σ Z H R :=
  Post.bind (E := fun o Z H => Post c m W o σ Z H Q) (fun _ _ _ e h => h.shift e) (fun _ _ _ h => h) (fun h => h) h hr
theorem Post.bindA {x : O D} {k : D → Fd → O (List D)} {Q : List V → Hp → Prop} {R : VK} (h : PostA c m W (x.bind k) σ Z H Q)
    (hr : ∀ d φ1 v Z1 H1, Ext c.f Z H Z1 H1 → Wf c.K c.f Z1 H1 φ1 → Res m1 c.K c.f H Z1 H1 v d → PostA c m W (k d φ1) σ Z1 H1 Q → R v H1) : Post c m1 W x σ Z H R :=
  Post.bind (E := fun o Z H => PostA c m W o σ Z H Q) (fun _ _ _ e h => h.shift e) (fun _ _ _ h => h) (fun h => h) h hr
theorem Post.bindB {x : O D} {k : D → Fd → O Bool} {Q : Bool → Hp → Prop} {R : VK} (h : PostB c W (x.bind k) σ Z H Q)
    (hr : ∀ d φ1 v Z1 H1, Ext c.f Z H Z1 H1 → Wf c.K c.f Z1 H1 φ1 → Res m1 c.K c.f H Z1 H1 v d → PostB c W (k d φ1) σ Z1 H1 Q → R v H1) : Post c m1 W x σ Z H R :=
  Post.bind (E := fun o Z H => PostB c W o σ Z H Q) (fun _ _ _ e h => h.shift e) (fun _ _ _ h => h) (fun h => h) h hr
theorem PostA.bind {α : Type} {x : O (List D)} {k : List D → Fd → O α} {E : O α → Hp → Hp → Prop} {R : List V → Hp → Prop}
    (hE : ∀ (o : O α) Z1 H1, Ext c.f Z H Z1 H1 → E o Z H → E o Z1 H1) (hX : ∀ y l φ, E (.ex y l φ) Z H → ∀ cls dx Z' H', Ext c.f Z H Z' H' → Wf c.K c.f Z' H' φ → XRep c Z' H' y l cls dx → W cls dx σ H') (hB : ¬ E .bad Z H)
    (h : E (x.bind k) Z H) (hr : ∀ d φ1 v Z1 H1, Ext c.f Z H Z1 H1 → Wf c.K c.f Z1 H1 φ1 → RAll m1 c.K c.f H Z1 H1 v d → E (k d φ1) Z1 H1 → R v H1) : PostA c m1 W x σ Z H R := by
  cases x with
  | ok d φ => exact fun v Z' H' e w r => hr d φ v Z' H' e w r (hE _ _ _ e h)
  | ex y l φ => exact hX y l φ h
  | bad => exact hB h
theorem PostA.bindE {x : O (List D)} {k : List D → Fd → O D} {Q : VK} {R : List V → Hp → Prop} (h : Post c m W (x.bind k) σ Z H Q)
    (hr : ∀ d φ1 v Z1 H1, Ext c.f Z H Z1 H1 → Wf c.K c.f Z1 H1 φ1 → RAll m1 c.K c.f H Z1 H1 v d → Post c m W (k d φ1) σ Z1 H1 Q → R v H1) : PostA c m1 W x σ Z H R :=
  PostA.bind (E := fun o Z H => Post c m W o σ Z H Q) (fun _ _ _ e h => h.shift e) (fun _ _ _ h => h) (fun h => h) h hr
theorem PostA.bindA {x : O (List D)} {k : List D → Fd → O (List D)} {Q : List V → Hp → Prop} {R : List V → Hp → Prop} (h : PostA c m W (x.bind k) σ Z H Q)
    (hr : ∀ d φ1 v Z1 H1, Ext c.f Z H Z1 H1 → Wf c.K c.f Z1 H1 φ1 → RAll m1 c.K c.f H Z1 H1 v d → PostA c m W (k d φ1) σ Z1 H1 Q → R v H1) : PostA c m1 W x σ Z H R :=
  PostA.bind (E := fun o Z H => PostA c m W o σ Z H Q) (fun _ _ _ e h => h.shift e) (fun _ _ _ h => h) (fun h => h) h hr
theorem PostB.bind {α : Type} {x : O Bool} {k : Bool → Fd → O α} {E : O α → Hp → Hp → Prop} {R : Bool → Hp → Prop}
    (hE : ∀ (o : O α) Z1 H1, Ext c.f Z H Z1 H1 → E o Z H → E o Z1 H1) (hX : ∀ y l φ, E (.ex y l φ) Z H → ∀ cls dx Z' H', Ext c.f Z H Z' H' → Wf c.K c.f Z' H' φ → XRep c Z' H' y l cls dx → W cls dx σ H') (hB : ¬ E .bad Z H)
    (h : E (x.bind k) Z H) (hr : ∀ d φ1 Z1 H1, Ext c.f Z H Z1 H1 → Wf c.K c.f Z1 H1 φ1 → E (k d φ1) Z1 H1 → R d H1) : PostB c W x σ Z H R := by
  cases x with
  | ok d φ => exact fun Z' H' e w => hr d φ Z' H' e w (hE _ _ _ e h)
  | ex y l φ => exact hX y l φ h
  | bad => exact hB h
theorem PostB.bindE {x : O Bool} {k : Bool → Fd → O D} {Q : VK} {R : Bool → Hp → Prop} (h : Post c m W (x.bind k) σ Z H Q)
    (hr : ∀ d φ1 Z1 H1, Ext c.f Z H Z1 H1 → Wf c.K c.f Z1 H1 φ1 → Post c m W (k d φ1) σ Z1 H1 Q → R d H1) : PostB c W x σ Z H R :=
  PostB.bind (E := fun o Z H => Post c m W o σ Z H Q) (fun _ _ _ e h => h.shift e) (fun _ _ _ h => h) (fun h => h) h hr
theorem PostB.bindB {x : O Bool} {k : Bool → Fd → O Bool} {Q : Bool → Hp → Prop} {R : Bool → Hp → Prop} (h : PostB c W (x.bind k) σ Z H Q)
    (hr : ∀ d φ1 Z1 H1, Ext c.f Z H Z1 H1 → Wf c.K c.f Z1 H1 φ1 → PostB c W (k d φ1) σ Z1 H1 Q → R d H1) : PostB c W x σ Z H R :=
  PostB.bind (E := fun o Z H => PostB c W o σ Z H Q) (fun _ _ _ e h => h.shift e) (fun _ _ _ h => h) (fun h => h) h hr
/-- changing the mode -/
theorem Post.mode {m2 : Md} {o : O D} {Q : VK} (h : Post c m W o σ Z H Q) (k : ∀ d φ v Z' H', Ext c.f Z H Z' H' → Wf c.K c.f Z' H' φ → Res m2 c.K c.f H Z' H' v d → ∃ Z2, Ext c.f Z H Z2 H' ∧ Wf c.K c.f Z2 H' φ ∧ Res m c.K c.f H Z2 H' v d) : Post c m2 W o σ Z H Q := by
  cases o with
  | ok d φ =>
    intro v Z' H' e w r
    obtain ⟨Z2, e2, w2, r2⟩ := k d φ v Z' H' e w r
    exact h v Z2 H' e2 w2 r2
  | ex x l φ => exact h
  | bad => exact h
end

/-! ## the judgements -/
theorem PE.weak {X : Cx} {e : Expr} {t t' : TE} (h : PE X e t) (k : ∀ σ H Q, t' σ H Q → t σ H Q) : PE X e t' := ⟨fun pins s σ H Q I q => h.run pins s σ H Q I (k σ H Q q)⟩
theorem PT.weak {X : Cx} {e : Expr} {t t' : TT} (h : PT X e t) (k : ∀ σ H Q, t' σ H Q → t σ H Q) : PT X e t' := ⟨fun pins s σ H Q I q => h.run pins s σ H Q I (k σ H Q q)⟩
theorem PW.weak {X : Cx} {e : Expr} {t t' : TT} (h : PW X e t) (k : ∀ σ H Q, t' σ H Q → t σ H Q) : PW X e t' := ⟨fun wh pins s σ H Q I q => h.run wh pins s σ H Q I (k σ H Q q)⟩
theorem PA.weak {X : Cx} {e : List Expr} {t t' : TA} (h : PA X e t) (k : ∀ σ H Q, t' σ H Q → t σ H Q) : PA X e t' := ⟨fun pos pins s σ H Q I q => h.run pos pins s σ H Q I (k σ H Q q)⟩
theorem PS.weak {X : Cx} {e : Stmt} {t t' : TS} (h : PS X e t) (k : ∀ D σ H, t' D σ H → t D σ H) : PS X e t' := ⟨fun pins s σ H D I q => h.run pins s σ H D I (k D σ H q)⟩
theorem PSs.weak {X : Cx} {e : List Stmt} {t t' : TS} (h : PSs X e t) (k : ∀ D σ H, t' D σ H → t D σ H) : PSs X e t' := ⟨fun pins s σ H D I q => h.run pins s σ H D I (k D σ H q)⟩
theorem PI.weak {X : Cx} {tg e : Expr} {t t' : TI} (h : PI X tg e t) (k : ∀ σ H R, t' σ H R → t σ H R) : PI X tg e t' := ⟨fun pins s σ H R I q => h.run pins s σ H R I (k σ H R q)⟩

/-- X's written part is c's; the judgement in short -/
structure Sc (X : Cx) (c : Ct) : Prop where
  K : X.K = c.K
abbrev EX (X : Cx) (c : Ct) (own : List Ms) (m : Md) (W : WX) (e : Expr) (A : SX) : Prop := PE X e (tE c own m W A)

section
variable {X : Cx} {c : Ct} {own : List Ms} {m : Md} {W : WX} {e : Expr} {A : SX}
/-- freezing a fresh cell -/
theorem freeze {Z H Z' H' : Hp} {φ : Fd} {a : Addr} {o : HO} {d : D} (e : Ext c.f Z H Z' H') (w : Wf c.K c.f Z' H' φ) (h0 : H a = none) (hz : Z' a = none) (hf : a ≠ c.f) (ha : H' a = some o) (rc : RepC c.K c.f Z' o d) :
    Ext c.f Z H (upd Z' a o) H' ∧ Wf c.K c.f (upd Z' a o) H' φ ∧ Rep c.K c.f (upd Z' a o) (.ref a) d := by
  have up : ∀ b u, Z' b = some u → upd Z' a o b = some u := fun b u q => by rw [upd_ne (ne_of_none q hz)]; exact q
  refine ⟨⟨fun b u q => up b u (e.z b u q), e.h, e.k, fun b hb hzb => ?_, e.d⟩, ⟨fun b u q => ?_, ?_, ?_, w.ok⟩, .cel upd_same (rc.mono up)⟩
  · have : b ≠ a := fun z => hb (z ▸ h0)
    rw [upd_ne this]
    exact e.n b hb hzb
  · by_cases hb : b = a
    · subst hb; rw [upd_same] at q; cases q; exact ha
    · rw [upd_ne hb] at q; exact w.sub b u q
  · rw [upd_ne (Ne.symm hf)]; exact w.zf
  · obtain ⟨s, h1, h2⟩ := w.feed
    exact ⟨s, h1.mono up, h2⟩
theorem EX.o2s (h : EX X c own .o W e A) : EX X c own .s W e A := by
  refine PE.weak h ?_
  rintro σ H Q ⟨Z, ρ, φ, R, p⟩
  refine ⟨Z, ρ, φ, R, p.mode fun d φ v Z' H' e w r => ?_⟩
  by_cases hm : d.mt = true
  · unfold Res at r
    rw [if_pos hm] at r
    obtain ⟨a, o, rfl, h0, hz, hf, ha, rc⟩ := r
    obtain ⟨e2, w2, r2⟩ := freeze e w h0 hz hf ha rc
    exact ⟨_, e2, w2, r2⟩
  · unfold Res at r
    rw [if_neg hm] at r
    exact ⟨Z', e, w, r⟩
theorem EX.s2p (h : EX X c own .s W e A) : EX X c own .p W e A := by
  refine PE.weak h ?_
  rintro σ H Q ⟨Z, ρ, φ, R, p⟩
  exact ⟨Z, ρ, φ, R, p.mode fun d φ v Z' H' e w r => ⟨Z', e, w, .inl r⟩⟩
theorem EX.o2p (h : EX X c own .o W e A) : EX X c own .p W e A := by
  refine PE.weak h ?_
  rintro σ H Q ⟨Z, ρ, φ, R, p⟩
  exact ⟨Z, ρ, φ, R, p.mode fun d φ v Z' H' e w r => ⟨Z', e, w, r.o2p⟩⟩
end

/-! ## names, constants -/
def eVar (i : Nat) : SX := fun ρ φ => match ρ[i]? with
  | some (some d) => .ok d φ
  | _ => .bad
def eInt (i : Int) : SX := fun _ φ => .ok (.int i) φ
def eBl (b : Bool) : SX := fun _ φ => .ok (.bl b) φ
def eNon : SX := fun _ φ => .ok .non φ
def eStr (x : Str) : SX := fun _ φ => .ok (.str x) φ
theorem eVar_ok {i : Nat} {ρ : En} {φ : Fd} {c : Ct} {m : Md} {W : WX} {σ : L2.St} {Z H : Hp} {Q : VK} (h : Post c m W (eVar i ρ φ) σ Z H Q) : ∃ d, ρ[i]? = some (some d) ∧ Post c m W (.ok d φ) σ Z H Q := by
  unfold eVar at h
  split at h
  · exact ⟨_, by assumption, h⟩
  · exact h.elim
section
variable {X : Cx} {c : Ct} {own : List Ms} {m : Md} {W : WX} {pos : Pos}
theorem x_var (i : Nat) {x : Str} (hN : X.N[i]? = some x := by rfl) (hv : Vis X.env.scope x := by first | exact Or.inl rfl | exact Or.inr (Or.inl rfl) | exact Or.inr (Or.inr rfl)) (hd : (x == ("__debug__" : Str)) = false := by decide)
    (hcd : (x == ("__classdict__" : Str)) = false := by decide) : EX X c own .p W (.Name x pos) (eVar i) := by
  refine PE.weak (pe_var hN hv hd hcd) ?_
  rintro σ H Q ⟨Z, ρ, φ, R, h⟩
  obtain ⟨d, e, h⟩ := eVar_ok h
  obtain ⟨v, e1, r⟩ := R.look e
  exact ⟨v, e1, h v Z H .refl R.wf r⟩
/-- a variable that is not own: its value may go anywhere -/
theorem x_varS (i : Nat) {x : Str} (ho : own[i]? ≠ some .o := by decide) (hp : own[i]? ≠ some .p := by decide) (hN : X.N[i]? = some x := by rfl) (hv : Vis X.env.scope x := by first | exact Or.inl rfl | exact Or.inr (Or.inl rfl) | exact Or.inr (Or.inr rfl)) (hd : (x == ("__debug__" : Str)) = false := by decide)
    (hcd : (x == ("__classdict__" : Str)) = false := by decide) : EX X c own .s W (.Name x pos) (eVar i) := by
  refine PE.weak (pe_var hN hv hd hcd) ?_
  rintro σ H Q ⟨Z, ρ, φ, R, h⟩
  obtain ⟨d, e, h⟩ := eVar_ok h
  obtain ⟨v, e1, r⟩ := R.sh i d e ho hp
  exact ⟨v, e1, h v Z H .refl R.wf r⟩
theorem x_int {i j} : EX X c own .o W (.Constant (.int i) j pos) (eInt i) :=
  PE.weak pe_int fun σ H Q ⟨Z, ρ, φ, R, h⟩ => h _ Z H .refl R.wf (Res.of_flat (.int i) rfl)
theorem x_bl {b j} : EX X c own .o W (.Constant (.bool b) j pos) (eBl b) :=
  PE.weak pe_bl fun σ H Q ⟨Z, ρ, φ, R, h⟩ => h _ Z H .refl R.wf (Res.of_flat (.bl b) rfl)
theorem x_non {j} : EX X c own .o W (.Constant .none j pos) eNon :=
  PE.weak pe_non fun σ H Q ⟨Z, ρ, φ, R, h⟩ => h _ Z H .refl R.wf (Res.of_flat .non rfl)
theorem x_str {x j} : EX X c own .o W (.Constant (.str x) j pos) (eStr x) :=
  PE.weak pe_str fun σ H Q ⟨Z, ρ, φ, R, h⟩ => h _ Z H .refl R.wf (Res.of_flat (.str x) rfl)
/-- a module's constant that is flat -/
theorem x_glob {x : Str} {v : V} {d : D} {u : Value} (hg : Gl X x := by rfl) (hm : X.mg x = some u) (r : RelV v u) (rd : ∀ K f Z, Rep K f Z v d) (hf : d.mt = false := by rfl) (hd : (x == ("__debug__" : Str)) = false := by decide) :
    EX X c own .o W (.Name x pos) (fun _ φ => .ok d φ) :=
  PE.weak (pe_glob hg hm r hd) fun σ H Q ⟨Z, ρ, φ, R, h⟩ => h _ Z H .refl R.wf (Res.of_flat (rd _ _ _) hf)

/-! ## operators by values -/
def eBin (g : D → D → Option D) (A B : SX) : SX := fun ρ φ => (A ρ φ).bind fun d φ1 => (B ρ φ1).bind fun e φ2 => ofO (g d e) φ2
def eUn (g : D → Option D) (A : SX) : SX := fun ρ φ => (A ρ φ).bind fun d φ1 => ofO (g d) φ1
/-- g tells what the rule r asks -/
def OpG (r : R2) (m : Md) (c : Ct) (g : D → D → Option D) : Prop :=
  ∀ (Z H : Hp) (φ : Fd) (x y : V) (d e z : D) (W : WX) (σ : L2.St) (Q : VK), Wf c.K c.f Z H φ → Res .p c.K c.f H Z H x d → Res .p c.K c.f H Z H y e → g d e = some z → Post c m W (.ok z φ) σ Z H Q → r x y H Q
def UnG (r : V → Hp → VK → Prop) (m : Md) (c : Ct) (g : D → Option D) : Prop :=
  ∀ (Z H : Hp) (φ : Fd) (x : V) (d z : D) (W : WX) (σ : L2.St) (Q : VK), Wf c.K c.f Z H φ → Res .p c.K c.f H Z H x d → g d = some z → Post c m W (.ok z φ) σ Z H Q → r x H Q
theorem ofO_ok {α : Type} {o : Option α} {φ : Fd} {E : O α → Prop} (h : E (ofO o φ)) (hb : ¬ E .bad) : ∃ z, o = some z ∧ E (.ok z φ) := by
  cases o with
  | none => exact absurd h hb
  | some z => exact ⟨z, rfl, h⟩
theorem bin_core {r : R2} {g : D → D → Option D} {A B : SX} (hg : OpG r m c g) {σ : L2.St} {H : Hp} {Q : VK} (h : tE c own m W (eBin g A B) σ H Q) :
    tOp r (tE c own .p W A) (tE c own .p W B) σ H Q := by
  obtain ⟨Z, ρ, φ, R, h⟩ := h
  refine ⟨Z, ρ, φ, R, Post.bindE h fun d φ1 x Z1 H1 e1 w1 r1 h1 => ?_⟩
  refine ⟨Z1, ρ, φ1, R.more e1 w1, Post.bindE h1 fun e φ2 y Z2 H2 e2 w2 r2 h2 => ?_⟩
  obtain ⟨z, hz, h3⟩ := ofO_ok (E := fun o => Post c m W o σ Z2 H2 Q) h2 fun z => z
  exact hg Z2 H2 φ2 x y d e z W σ Q w2 (show Res .p c.K c.f H2 Z2 H2 x d from r1.pmono e2) (show Res .p c.K c.f H2 Z2 H2 y e from r2) hz h3
theorem x_bin {op : Operator} {r : R2} {g : D → D → Option D} {a b : Expr} {A B : SX} (ho : OpR X (binaryOp op) r) (hg : OpG r m c g) (ha : EX X c own .p W a A) (hb : EX X c own .p W b B) :
    EX X c own m W (.BinOp a op b pos) (eBin g A B) := PE.weak (pe_op ho ha hb) fun _ _ _ h => bin_core hg h
theorem x_cmp {op : CmpOp} {r : R2} {g : D → D → Option D} {a b : Expr} {A B : SX} (ho : OpR X (compareOp op) r) (hg : OpG r m c g) (ha : EX X c own .p W a A) (hb : EX X c own .p W b B) (hm : behindInMarks op b = false) :
    EX X c own m W (.Compare a [op] [b] pos) (eBin g A B) := PE.weak (pe_cmpR ho ha hb hm) fun _ _ _ h => bin_core hg h
theorem un_core {r : V → Hp → VK → Prop} {g : D → Option D} {A : SX} (hg : UnG r m c g) {σ : L2.St} {H : Hp} {Q : VK} (h : tE c own m W (eUn g A) σ H Q) : tUn r (tE c own .p W A) σ H Q := by
  obtain ⟨Z, ρ, φ, R, h⟩ := h
  refine ⟨Z, ρ, φ, R, Post.bindE h fun d φ1 x Z1 H1 e1 w1 r1 h1 => ?_⟩
  obtain ⟨z, hz, h3⟩ := ofO_ok (E := fun o => Post c m W o σ Z1 H1 Q) h1 fun z => z
  exact hg Z1 H1 φ1 x d z W σ Q w1 (show Res .p c.K c.f H1 Z1 H1 x d from r1) hz h3
theorem x_un {op : UnaryOp} {r : V → Hp → VK → Prop} {g : D → Option D} {a : Expr} {A : SX} (ho : UnR X (unaryOp op) r) (hg : UnG r m c g) (ha : EX X c own .p W a A) : EX X c own m W (.UnaryOp op a pos) (eUn g A) :=
  PE.weak (pe_un ho ha) fun _ _ _ h => un_core hg h

/-! ## argument lists, calls of built-ins, displays -/
def aNil : SA := fun _ φ => .ok [] φ
def aCons (A : SX) (B : SA) : SA := fun ρ φ => (A ρ φ).bind fun d φ1 => (B ρ φ1).bind fun ds φ2 => .ok (d :: ds) φ2
abbrev AX (X : Cx) (c : Ct) (own : List Ms) (m : Md) (W : WX) (es : List Expr) (A : SA) : Prop := PA X es (tA c own m W A)
theorem x_nil : AX X c own m W [] aNil := PA.weak pa_nil fun σ H Q ⟨Z, ρ, φ, R, h⟩ => h [] Z H .refl R.wf trivial
theorem Res.mono {K : PySem.W.Frag} {f : Addr} {H0 Z H Z' H' : Hp} {v : V} {d : D} (r : Res m K f H0 Z H v d) (e : Ext f Z H Z' H') : Res m K f H0 Z' H' v d := by
  cases m with
  | s => exact Rep.mono e.z r
  | p => exact r.pmono e
  | d n => exact ⟨Rep.mono e.z r.1, Nw.mono e.z r.2⟩
  | o =>
    by_cases hm : d.mt = true
    · unfold Res at r ⊢
      rw [if_pos hm] at r ⊢
      obtain ⟨a, o, rfl, h0, hz, hf, ha, rc⟩ := r
      exact ⟨a, o, rfl, h0, e.n a (by rw [ha]; simp) hz, hf, e.h a o hf ha, rc.mono e.z⟩
    · unfold Res at r ⊢
      rw [if_neg hm] at r ⊢
      exact r.mono e.z
theorem Res.any {K : PySem.W.Frag} {f : Addr} {H0 H1 Z H : Hp} {v : V} {d : D} (hm : m = .s ∨ m = .p) (r : Res m K f H0 Z H v d) : Res m K f H1 Z H v d := by
  cases m with
  | s => exact r
  | p => exact r
  | o => rcases hm with h | h <;> cases h
  | d n => rcases hm with h | h <;> cases h
theorem RAll.any {K : PySem.W.Frag} {f : Addr} {H0 H1 Z H : Hp} (hm : m = .s ∨ m = .p) : ∀ {vs : List V} {ds : List D}, RAll m K f H0 Z H vs ds → RAll m K f H1 Z H vs ds
  | [], [], _ => trivial
  | _ :: _, _ :: _, h => ⟨h.1.any hm, RAll.any hm h.2⟩
theorem x_cons {e : Expr} {es : List Expr} {A : SX} {B : SA} (ha : EX X c own m W e A) (hb : AX X c own m W es B) (hm : m = .s ∨ m = .p := by decide) (hs : starEach (e :: es) X.env = (false, eval e X.env) :: starEach es X.env := by rfl) : AX X c own m W (e :: es) (aCons A B) := by
  refine PA.weak (pa_cons ha hb hs) ?_
  rintro σ H Q ⟨Z, ρ, φ, R, h⟩
  refine ⟨Z, ρ, φ, R, Post.bindA h fun d φ1 x Z1 H1 e1 w1 r1 h1 => ?_⟩
  refine ⟨Z1, ρ, φ1, R.more e1 w1, PostA.bindA h1 fun ds φ2 xs Z2 H2 e2 w2 r2 h2 => ?_⟩
  exact h2 (x :: xs) Z2 H2 .refl w2 ⟨(r1.mono e2).any hm, r2.any hm⟩
/-! displays -/
def eLst (A : SA) : SX := fun ρ φ => (A ρ φ).bind fun ds φ1 => if ds.length ≤ sizeLine then .ok (.lst ds) φ1 else .bad
def eTup (A : SA) : SX := fun ρ φ => (A ρ φ).bind fun ds φ1 => if ds.length ≤ sizeLine then .ok (.tup ds) φ1 else .bad
/-- a new cell, own -/
theorem Post.newO {o : HO} {d : D} {φ : Fd} {Z H : Hp} {σ : L2.St} {Q : VK} (w : Wf c.K c.f Z H φ) (rc : RepC c.K c.f Z o d) (h : Post c .o W (.ok d φ) σ Z H Q) : ∀ p, H p = none → Q (.ref p) (upd H p o) := by
  intro p hp
  have hz : Z p = none := by
    cases e : Z p with
    | none => rfl
    | some u => rw [w.sub p u e] at hp; cases hp
  have hf : p ≠ c.f := fun e => w.hf (e ▸ hp)
  have up : ∀ b u, H b = some u → upd H p o b = some u := fun b u q => by rw [upd_ne (ne_of_none q hp)]; exact q
  have e : Ext c.f Z H Z (upd H p o) := ⟨fun _ _ q => q, fun b u _ q => up b u q, fun b hb => by
    cases e : H b with
    | none => exact absurd e hb
    | some u => rw [up b u e]; simp, fun _ _ q => q, .same (upd_ne (Ne.symm hf))⟩
  refine h _ Z _ e ⟨fun b u q => up b u (w.sub b u q), w.zf, ?_, w.ok⟩ ?_
  · obtain ⟨s, h1, h2⟩ := w.feed
    exact ⟨s, h1, up _ _ h2⟩
  · have hm : d.mt = true := by cases rc <;> rfl
    unfold Res
    rw [if_pos hm]
    exact ⟨p, o, rfl, hp, hz, hf, upd_same, rc⟩
/-- a new tuple, frozen -/
theorem Post.newT {m : Md} {vs : List V} {ds : List D} {φ : Fd} {Z H : Hp} {σ : L2.St} {Q : VK} (w : Wf c.K c.f Z H φ) (rc : Reps c.K c.f Z vs ds) (h : Post c m W (.ok (.tup ds) φ) σ Z H Q) : ∀ p, H p = none → Q (.ref p) (upd H p (.tup vs)) := by
  intro p hp
  have hz : Z p = none := by
    cases e : Z p with
    | none => rfl
    | some u => rw [w.sub p u e] at hp; cases hp
  have hf : p ≠ c.f := fun e => w.hf (e ▸ hp)
  have up : ∀ b u, H b = some u → upd H p (.tup vs) b = some u := fun b u q => by rw [upd_ne (ne_of_none q hp)]; exact q
  have upz : ∀ b u, Z b = some u → upd Z p (.tup vs) b = some u := fun b u q => by rw [upd_ne (ne_of_none q hz)]; exact q
  have e : Ext c.f Z H (upd Z p (.tup vs)) (upd H p (.tup vs)) := ⟨upz, fun b u _ q => up b u q, fun b hb => by
    cases e : H b with
    | none => exact absurd e hb
    | some u => rw [up b u e]; simp, fun b hb q => by rw [upd_ne (fun z => hb (by rw [z]; exact hp))]; exact q, .same (upd_ne (Ne.symm hf))⟩
  refine h _ _ _ e ⟨fun b u q => ?_, ?_, ?_, w.ok⟩ ?_
  · by_cases hb : b = p
    · subst hb; rw [upd_same] at q; cases q; exact upd_same
    · rw [upd_ne hb] at q; exact up b u (w.sub b u q)
  · rw [upd_ne (Ne.symm hf)]; exact w.zf
  · obtain ⟨s, h1, h2⟩ := w.feed
    exact ⟨s, h1.mono upz, up _ _ h2⟩
  · exact Res.of_flat (.tup (SqT.of upd_same) (rc.mono upz)) rfl
theorem iteO_ok {b : Prop} [Decidable b] {α : Type} {a : α} {φ : Fd} {E : O α → Prop} (h : E (if b then .ok a φ else .bad)) (hb : ¬ E .bad) : b ∧ E (.ok a φ) := by
  by_cases hc : b
  · rw [if_pos hc] at h; exact ⟨hc, h⟩
  · rw [if_neg hc] at h; exact absurd h hb
theorem x_lst {es : List Expr} {A : SA} (ha : AX X c own .s W es A) : EX X c own .o W (.List es pos) (eLst A) := by
  refine PE.weak (pe_lst ha) ?_
  rintro σ H Q ⟨Z, ρ, φ, R, h⟩
  refine ⟨Z, ρ, φ, R, ?_⟩
  refine PostA.bindE h fun ds φ1 xs Z1 H1 e1 w1 r1 h1 => ?_
  obtain ⟨hl, h2⟩ := iteO_ok (E := fun o => Post c .o W o σ Z1 H1 Q) h1 fun z => z
  exact ⟨by rw [r1.length]; exact hl, h2.newO w1 (.lst r1.reps)⟩
theorem x_tup {es : List Expr} {A : SA} {x1} (ha : AX X c own .s W es A) : EX X c own m W (.Tuple es x1 pos) (eTup A) := by
  refine PE.weak (pe_tup ha) ?_
  rintro σ H Q ⟨Z, ρ, φ, R, h⟩
  refine ⟨Z, ρ, φ, R, ?_⟩
  refine PostA.bindE h fun ds φ1 xs Z1 H1 e1 w1 r1 h1 => ?_
  obtain ⟨hl, h2⟩ := iteO_ok (E := fun o => Post c m W o σ Z1 H1 Q) h1 fun z => z
  exact ⟨by rw [r1.length]; exact hl, h2.newT w1 r1.reps⟩
/-! calls of built-ins -/
def CallG (r : List V → Hp → VK → Prop) (m : Md) (c : Ct) (g : List D → Option D) : Prop :=
  ∀ (Z H : Hp) (φ : Fd) (xs : List V) (ds : List D) (z : D) (W : WX) (σ : L2.St) (Q : VK), Wf c.K c.f Z H φ → RAll .p c.K c.f H Z H xs ds → g ds = some z → Post c m W (.ok z φ) σ Z H Q → r xs H Q
def eCB (g : List D → Option D) (A : SA) : SX := fun ρ φ => (A ρ φ).bind fun ds φ1 => ofO (g ds) φ1
theorem cb_core {r : List V → Hp → VK → Prop} {g : List D → Option D} {A : SA} (hg : CallG r m c g) {σ : L2.St} {H : Hp} {Q : VK} (h : tE c own m W (eCB g A) σ H Q) : tCB r (tA c own .p W A) σ H Q := by
  obtain ⟨Z, ρ, φ, R, h⟩ := h
  refine ⟨Z, ρ, φ, R, PostA.bindE h fun ds φ1 xs Z1 H1 e1 w1 r1 h1 => ?_⟩
  obtain ⟨z, hz, h3⟩ := ofO_ok (E := fun o => Post c m W o σ Z1 H1 Q) h1 fun z => z
  exact hg Z1 H1 φ1 xs ds z W σ Q w1 (r1.any (by decide)) hz h3
theorem x_callB {id : String} {r : List V → Hp → VK → Prop} {g : List D → Option D} {x : Str} {p : Pos} {e : Expr} {es : List Expr} {A : SA} (hc : CallR X (.builtin id) r) (hG : CallG r m c g) (hm : X.mg x = none) (hv : bootBuiltins x = some (.builtin id)) (ha : AX X c own .p W (e :: es) A)
    (hg : Gl X x := by rfl) (hn : x ≠ "__name__" := by decide) (hdb : (x == ("__debug__" : Str)) = false := by decide)
    (he : starEach (e :: es) X.env = (false, eval e X.env) :: starEach es X.env := by rfl) (hpl : (backTo pos (starEach es X.env)).any (·.1) = false := by rfl) : EX X c own m W (.Call (.Name x p) (e :: es) [] pos) (eCB g A) :=
  PE.weak (pe_callB hc hg hm hv ha hn hdb he hpl) fun _ _ _ h => cb_core hG h
theorem x_callT {T : String} {r : List V → Hp → VK → Prop} {g : List D → Option D} {x : Str} {p : Pos} {e : Expr} {es : List Expr} {A : SA} (hc : CallR X (.type T) r) (hG : CallG r m c g) (hm : X.mg x = none) (hv : bootBuiltins x = some (.type T)) (ha : AX X c own .p W (e :: es) A)
    (hg : Gl X x := by rfl) (hn : x ≠ "__name__" := by decide) (hdb : (x == ("__debug__" : Str)) = false := by decide)
    (he : starEach (e :: es) X.env = (false, eval e X.env) :: starEach es X.env := by rfl) (hpl : (backTo pos (starEach es X.env)).any (·.1) = false := by rfl) : EX X c own m W (.Call (.Name x p) (e :: es) [] pos) (eCB g A) :=
  PE.weak (pe_callTy hc hg hm hv ha hn hdb he hpl) fun _ _ _ h => cb_core hG h

/-! tests -/
abbrev BX (X : Cx) (c : Ct) (own : List Ms) (W : WX) (e : Expr) (A : SB) : Prop := PT X e (tB c own W A)
def bVal (A : SX) : SB := fun ρ φ => (A ρ φ).bind fun d φ1 => match d with | .bl b => .ok b φ1 | _ => .bad
/-- an expression that gives True or False, as a test -/
theorem b_val {e : Expr} {A : SX} (h : EX X c own m W e A) (he : ∀ whole, isTrue e X.env whole = (do let v ← whole; standAt e.pos; holding [v] (truthy v)) := by intro _; rfl) : BX X c own W e (bVal A) := by
  refine PT.weak (pt_val h he) ?_
  rintro σ H Q ⟨Z, ρ, φ, R, h⟩
  refine ⟨Z, ρ, φ, R, ?_⟩
  refine Post.bindB h fun d φ1 v Z1 H1 e1 w1 r1 h1 => ?_
  cases d with
  | bl b => exact ⟨b, r1.bl, h1 Z1 H1 .refl w1⟩
  | _ => exact h1.elim
def bCmp (g : D → D → Option D) (A B : SX) : SB := bVal (eBin g A B)
/-- a comparison as a test -/
theorem b_cmp {op : CmpOp} {r : R2} {g : D → D → Option D} {a b : Expr} {A B : SX} (ho : OpR X (compareOp op) r) (hg : OpG r .o c g) (ha : EX X c own .p W a A) (hb : EX X c own .p W b B) (hm : behindInMarks op b = false) :
    BX X c own W (.Compare a [op] [b] pos) (bCmp g A B) := by
  refine PT.weak (pt_cmpR ho ha hb hm) ?_
  rintro σ H Q ⟨Z, ρ, φ, R, h⟩
  show tOp r (tE c own .p W A) (tE c own .p W B) σ H fun x H' => ∃ k, x = .bl k ∧ Q k H'
  refine bin_core (m := .o) hg ⟨Z, ρ, φ, R, ?_⟩
  refine Post.bindB h fun d φ1 v Z1 H1 e1 w1 r1 h1 => ?_
  cases d with
  | bl b => exact ⟨b, r1.bl, h1 Z1 H1 .refl w1⟩
  | _ => exact h1.elim
/-! truth of any value -/
def truD : D → Option Bool
  | .non => some false
  | .bl b => some b
  | .int i => some (i != 0)
  | .str y => if y.length ≤ sizeLine then some ((y.length : Int) != 0) else none
  | .lst l => some (!l.isEmpty)
  | .tup l => some (!l.isEmpty)
  | .dk l => some (!l.isEmpty)
  | _ => none
def bTru (A : SX) : SB := fun ρ φ => (A ρ φ).bind fun d φ1 => ofO (truD d) φ1
theorem isEmpty_reps {K : PySem.W.Frag} {f : Addr} {Z : Hp} {vs : List V} {ds : List D} (h : Reps K f Z vs ds) : (!ds.isEmpty) = !vs.isEmpty := by cases h <;> rfl
theorem isEmpty_kreps {K : PySem.W.Frag} {f : Addr} {Z : Hp} {vs : List (Key × V)} {ds : List (Key × D)} (h : KReps K f Z vs ds) : (!ds.isEmpty) = !vs.isEmpty := by cases h <;> rfl
theorem tru_core {Z H : Hp} {φ : Fd} {v : V} {d : D} {k : Bool} (hK : X.K = c.K) (w : Wf c.K c.f Z H φ) (r : Res .p c.K c.f H Z H v d) (e : truD d = some k) : TruV X.K v H k := by
  cases d with
  | non => cases e; rw [r.non]; rfl
  | bl b => cases e; rw [r.bl]; rfl
  | int i => cases e; rw [r.int]; rfl
  | str y =>
    rw [r.str]
    have e' : (if y.length ≤ sizeLine then some ((y.length : Int) != 0) else none) = some k := e
    by_cases hy : y.length ≤ sizeLine
    · rw [if_pos hy] at e'; cases e'; exact ⟨hy, rfl⟩
    · rw [if_neg hy] at e'; cases e'
  | lst l =>
    cases e
    obtain ⟨a, vs, rfl, ha, q⟩ := r.lst w
    exact .inl ⟨vs, SqL.of ha, isEmpty_reps q⟩
  | tup l =>
    cases e
    obtain ⟨a, vs, rfl, ha, q⟩ := r.tup
    exact .inr (.inl ⟨vs, by rw [hK]; exact w.sqT ha, isEmpty_reps q⟩)
  | dk l =>
    cases e
    obtain ⟨a, vs, rfl, ha, q⟩ := r.dk w
    exact .inr (.inr ⟨vs, ha, isEmpty_kreps q⟩)
  | dt l => cases e
  | feed => cases e
  | exn _ _ => cases e
theorem b_tru (hK : X.K = c.K) {e : Expr} {A : SX} (h : EX X c own .p W e A) (he : ∀ whole, isTrue e X.env whole = (do let v ← whole; standAt e.pos; holding [v] (truthy v)) := by intro _; rfl) : BX X c own W e (bTru A) := by
  refine PT.weak (pt_truth h he) ?_
  rintro σ H Q ⟨Z, ρ, φ, R, h⟩
  refine ⟨Z, ρ, φ, R, ?_⟩
  refine Post.bindB h fun d φ1 v Z1 H1 e1 w1 r1 h1 => ?_
  obtain ⟨k, hk, h2⟩ := ofO_ok (E := fun o => PostB c W o σ Z1 H1 Q) h1 fun z => z
  exact ⟨k, tru_core hK w1 (r1.any (by decide)) hk, h2 Z1 H1 .refl w1⟩
/-! and, or, not, if .. else -/
def bAnd (A B : SB) : SB := fun ρ φ => (A ρ φ).bind fun b φ1 => if b = true then B ρ φ1 else .ok false φ1
def bOr (A B : SB) : SB := fun ρ φ => (A ρ φ).bind fun b φ1 => if b = true then .ok true φ1 else B ρ φ1
def bNot (A : SB) : SB := fun ρ φ => (A ρ φ).bind fun b φ1 => .ok (!b) φ1
abbrev WW (X : Cx) (c : Ct) (own : List Ms) (W : WX) (e : Expr) (A : SB) : Prop := PW X e (tB c own W A)
section
variable {a b : Expr} {rest : List Expr} {A B : SB}
theorem w_and1 (h : BX X c own W a A) : WW X c own W (.BoolOp .And [a] pos) A := pw_and1 h
theorem w_or1 (h : BX X c own W a A) : WW X c own W (.BoolOp .Or [a] pos) A := pw_or1 h
theorem w_and (ha : BX X c own W a A) (hb : WW X c own W (.BoolOp .And (b :: rest) pos) B) : WW X c own W (.BoolOp .And (a :: b :: rest) pos) (bAnd A B) := by
  refine PW.weak (pw_and ha hb) ?_
  rintro σ H Q ⟨Z, ρ, φ, R, h⟩
  refine ⟨Z, ρ, φ, R, PostB.bindB h fun b φ1 Z1 H1 e1 w1 h1 => ?_⟩
  cases b with
  | true => exact ⟨Z1, ρ, φ1, R.more e1 w1, h1⟩
  | false => exact h1 Z1 H1 .refl w1
theorem w_or (ha : BX X c own W a A) (hb : WW X c own W (.BoolOp .Or (b :: rest) pos) B) : WW X c own W (.BoolOp .Or (a :: b :: rest) pos) (bOr A B) := by
  refine PW.weak (pw_or ha hb) ?_
  rintro σ H Q ⟨Z, ρ, φ, R, h⟩
  refine ⟨Z, ρ, φ, R, PostB.bindB h fun b φ1 Z1 H1 e1 w1 h1 => ?_⟩
  cases b with
  | false => exact ⟨Z1, ρ, φ1, R.more e1 w1, h1⟩
  | true => exact h1 Z1 H1 .refl w1
theorem b_pw (h : WW X c own W a A) : BX X c own W a A := PW.pt h
theorem b_not (ha : BX X c own W a A) : BX X c own W (.UnaryOp .Not a pos) (bNot A) := by
  refine PT.weak (pt_not ha) ?_
  rintro σ H Q ⟨Z, ρ, φ, R, h⟩
  exact ⟨Z, ρ, φ, R, PostB.bindB h fun b φ1 Z1 H1 e1 w1 h1 => h1 Z1 H1 .refl w1⟩
def eIf (T : SB) (A B : SX) : SX := fun ρ φ => (T ρ φ).bind fun b φ1 => if b = true then A ρ φ1 else B ρ φ1
theorem x_if {t a b : Expr} {T : SB} {A B : SX} (ht : BX X c own W t T) (ha : EX X c own m W a A) (hb : EX X c own m W b B) : EX X c own m W (.IfExp t a b pos) (eIf T A B) := by
  refine PE.weak (pe_ifExp ht ha hb) ?_
  rintro σ H Q ⟨Z, ρ, φ, R, h⟩
  refine ⟨Z, ρ, φ, R, PostB.bindE h fun b φ1 Z1 H1 e1 w1 h1 => ?_⟩
  cases b with
  | true => exact ⟨Z1, ρ, φ1, R.more e1 w1, h1⟩
  | false => exact ⟨Z1, ρ, φ1, R.more e1 w1, h1⟩
/-! .. as values -/
def eAnd (A B : SX) : SX := fun ρ φ => (A ρ φ).bind fun d φ1 => match d with | .bl true => B ρ φ1 | .bl false => .ok (.bl false) φ1 | _ => .bad
def eOr (A B : SX) : SX := fun ρ φ => (A ρ φ).bind fun d φ1 => match d with | .bl false => B ρ φ1 | .bl true => .ok (.bl true) φ1 | _ => .bad
def eNot (A : SX) : SX := fun ρ φ => (A ρ φ).bind fun d φ1 => match d with | .bl b => .ok (.bl (!b)) φ1 | _ => .bad
theorem x_one {op} {A : SX} (h : EX X c own m W a A) : EX X c own m W (.BoolOp op [a] pos) A := pe_one h
theorem x_and {A B : SX} (ha : EX X c own .p W a A) (hb : EX X c own m W (.BoolOp .And (b :: rest) pos) B) : EX X c own m W (.BoolOp .And (a :: b :: rest) pos) (eAnd A B) := by
  refine PE.weak (pe_and ha hb) ?_
  rintro σ H Q ⟨Z, ρ, φ, R, h⟩
  refine ⟨Z, ρ, φ, R, Post.bindE h fun d φ1 x Z1 H1 e1 w1 r1 h1 => ?_⟩
  cases d with
  | bl b =>
    cases b with
    | true => exact ⟨true, r1.bl, ⟨Z1, ρ, φ1, R.more e1 w1, h1⟩⟩
    | false => exact ⟨false, r1.bl, h1 _ Z1 H1 .refl w1 (Res.of_flat (.bl false) rfl)⟩
  | _ => exact h1.elim
theorem x_or {A B : SX} (ha : EX X c own .p W a A) (hb : EX X c own m W (.BoolOp .Or (b :: rest) pos) B) : EX X c own m W (.BoolOp .Or (a :: b :: rest) pos) (eOr A B) := by
  refine PE.weak (pe_or ha hb) ?_
  rintro σ H Q ⟨Z, ρ, φ, R, h⟩
  refine ⟨Z, ρ, φ, R, Post.bindE h fun d φ1 x Z1 H1 e1 w1 r1 h1 => ?_⟩
  cases d with
  | bl b =>
    cases b with
    | false => exact ⟨false, r1.bl, ⟨Z1, ρ, φ1, R.more e1 w1, h1⟩⟩
    | true => exact ⟨true, r1.bl, h1 _ Z1 H1 .refl w1 (Res.of_flat (.bl true) rfl)⟩
  | _ => exact h1.elim
theorem x_not {A : SX} (ha : EX X c own .p W a A) : EX X c own m W (.UnaryOp .Not a pos) (eNot A) := by
  refine PE.weak (pe_not ha) ?_
  rintro σ H Q ⟨Z, ρ, φ, R, h⟩
  refine ⟨Z, ρ, φ, R, Post.bindE h fun d φ1 x Z1 H1 e1 w1 r1 h1 => ?_⟩
  cases d with
  | bl b => exact ⟨b, r1.bl, h1 _ Z1 H1 .refl w1 (Res.of_flat (.bl _) rfl)⟩
  | _ => exact h1.elim
end
end
end Pf

set_option Elab.async false
set_option linter.all false
set_option maxRecDepth 100000
set_option maxHeartbeats 4000000
namespace Pf
open PySem PySem.Spec PyProof.Rows L2

theorem Post.now {c : Ct} {m : Md} {W : WX} {z : D} {φ : Fd} {σ : L2.St} {Z H : Hp} {Q : VK} {v : V} (h : Post c m W (.ok z φ) σ Z H Q) (w : Wf c.K c.f Z H φ) (r : Res m c.K c.f H Z H v z) : Q v H := h v Z H .refl w r
theorem Post.nowI {c : Ct} {m : Md} {W : WX} {i : Int} {φ : Fd} {σ : L2.St} {Z H : Hp} {Q : VK} (h : Post c m W (.ok (.int i) φ) σ Z H Q) (w : Wf c.K c.f Z H φ) : Q (.int i) H := h _ Z H .refl w (Res.of_flat (.int i) rfl)
theorem Post.nowB {c : Ct} {m : Md} {W : WX} {b : Bool} {φ : Fd} {σ : L2.St} {Z H : Hp} {Q : VK} (h : Post c m W (.ok (.bl b) φ) σ Z H Q) (w : Wf c.K c.f Z H φ) : Q (.bl b) H := h _ Z H .refl w (Res.of_flat (.bl b) rfl)
theorem Post.nowS {c : Ct} {m : Md} {W : WX} {b : Str} {φ : Fd} {σ : L2.St} {Z H : Hp} {Q : VK} (h : Post c m W (.ok (.str b) φ) σ Z H Q) (w : Wf c.K c.f Z H φ) : Q (.str b) H := h _ Z H .refl w (Res.of_flat (.str b) rfl)

/-! ## numbers -/
def gI (g : Int → Int → Int) : D → D → Option D
  | .int i, .int j => some (.int (g i j))
  | _, _ => none
def gIB (g : Int → Int → Bool) : D → D → Option D
  | .int i, .int j => some (.bl (g i j))
  | _, _ => none
def gIc (C : Int → Int → Bool) (g : Int → Int → Int) : D → D → Option D
  | .int i, .int j => if C i j = true then some (.int (g i j)) else none
  | _, _ => none
theorem gI_ok {m : Md} {c : Ct} {g : Int → Int → Int} : OpG (rI0 fun i j => .int (g i j)) m c (gI g) := by
  intro Z H φ x y d e z W σ Q w rx ry hg h
  cases d with
  | int i =>
    cases e with
    | int j => cases hg; exact ⟨i, j, rx.int, ry.int, h.nowI w⟩
    | _ => cases hg
  | _ => cases hg
theorem gIB_ok {m : Md} {c : Ct} {g : Int → Int → Bool} : OpG (rI0 fun i j => .bl (g i j)) m c (gIB g) := by
  intro Z H φ x y d e z W σ Q w rx ry hg h
  cases d with
  | int i =>
    cases e with
    | int j => cases hg; exact ⟨i, j, rx.int, ry.int, h.nowB w⟩
    | _ => cases hg
  | _ => cases hg
theorem gIc_ok {m : Md} {c : Ct} {C : Int → Int → Bool} {C' : Int → Int → Prop} {g : Int → Int → Int} (hC : ∀ i j, C i j = true → C' i j) : OpG (rI C' fun i j => .int (g i j)) m c (gIc C g) := by
  intro Z H φ x y d e z W σ Q w rx ry hg h
  cases d with
  | int i =>
    cases e with
    | int j =>
      have hg' : (if C i j = true then some (D.int (g i j)) else none) = some z := hg
      by_cases q : C i j = true
      · rw [if_pos q] at hg'; cases hg'
        exact ⟨i, j, rx.int, ry.int, hC _ _ q, h.nowI w⟩
      · rw [if_neg q] at hg'; cases hg'
    | _ => cases hg
  | _ => cases hg
def gSub : D → D → Option D := gI fun i j => i - j
def cDiv (i j : Int) : Bool := decide (j ≠ 0) && decide (j.natAbs < 1073741824)
def gDiv : D → D → Option D := gIc cDiv fun i j => i.fdiv j
def gMod : D → D → Option D := gIc (fun _ j => decide (j ≠ 0)) fun i j => i.fmod j
def cPow (i j : Int) : Bool := decide (0 ≤ j) && decide (j ≤ 1000000) && decide (i.natAbs < 18446744073709551616)
def gPow : D → D → Option D := gIc cPow fun i j => i ^ j.toNat
def gShl : D → D → Option D := gIc cPow fun i j => i * 2 ^ j.toNat
def gShr : D → D → Option D := gIc (fun _ j => decide (0 ≤ j)) fun i j => i / 2 ^ j.toNat
def gAnd : D → D → Option D := gI Builtin.bitAnd
def gLt : D → D → Option D := gIB fun i j => decide (i < j)
def gLe : D → D → Option D := gIB fun i j => decide (i ≤ j)
def gGt : D → D → Option D := gIB fun i j => decide (j < i)
def gGe : D → D → Option D := gIB fun i j => decide (j ≤ i)
section
variable {X : Cx} {c : Ct} {own : List Ms} {W : WX} {a b : Expr} {A B : SX} {pos : Pos}
theorem x_sub (ha : EX X c own .p W a A) (hb : EX X c own .p W b B) : EX X c own .o W (.BinOp a .Sub b pos) (eBin gSub A B) := x_bin op_sub gI_ok ha hb
theorem x_div (ha : EX X c own .p W a A) (hb : EX X c own .p W b B) : EX X c own .o W (.BinOp a .FloorDiv b pos) (eBin gDiv A B) :=
  x_bin op_fdivN (gIc_ok fun i j h => by unfold cDiv at h; simpa [CDivN] using h) ha hb
theorem x_mod (ha : EX X c own .p W a A) (hb : EX X c own .p W b B) : EX X c own .o W (.BinOp a .Mod b pos) (eBin gMod A B) :=
  x_bin op_modN (gIc_ok fun i j h => by simpa using h) ha hb
theorem x_pow (ha : EX X c own .p W a A) (hb : EX X c own .p W b B) : EX X c own .o W (.BinOp a .Pow b pos) (eBin gPow A B) :=
  x_bin op_pow (gIc_ok fun i j h => by unfold cPow at h; simpa [CPow, and_assoc] using h) ha hb
theorem x_shl (ha : EX X c own .p W a A) (hb : EX X c own .p W b B) : EX X c own .o W (.BinOp a .LShift b pos) (eBin gShl A B) :=
  x_bin op_shl (gIc_ok fun i j h => by unfold cPow at h; simpa [CPow, and_assoc] using h) ha hb
theorem x_shr (ha : EX X c own .p W a A) (hb : EX X c own .p W b B) : EX X c own .o W (.BinOp a .RShift b pos) (eBin gShr A B) :=
  x_bin op_shr (gIc_ok fun i j h => by simpa using h) ha hb
theorem x_band (ha : EX X c own .p W a A) (hb : EX X c own .p W b B) : EX X c own .o W (.BinOp a .BitAnd b pos) (eBin gAnd A B) := x_bin op_and gI_ok ha hb
/-! comparisons of ints -/
theorem x_lt (ha : EX X c own .p W a A) (hb : EX X c own .p W b B) : EX X c own .o W (.Compare a [.Lt] [b] pos) (eBin gLt A B) := x_cmp op_lt gIB_ok ha hb (nomark _)
theorem x_le (ha : EX X c own .p W a A) (hb : EX X c own .p W b B) : EX X c own .o W (.Compare a [.LtE] [b] pos) (eBin gLe A B) := x_cmp op_le gIB_ok ha hb (nomark _)
theorem x_gt (ha : EX X c own .p W a A) (hb : EX X c own .p W b B) : EX X c own .o W (.Compare a [.Gt] [b] pos) (eBin gGt A B) := x_cmp op_gt gIB_ok ha hb (nomark _)
theorem x_ge (ha : EX X c own .p W a A) (hb : EX X c own .p W b B) : EX X c own .o W (.Compare a [.GtE] [b] pos) (eBin gGe A B) := x_cmp op_ge gIB_ok ha hb (nomark _)
theorem b_lt (ha : EX X c own .p W a A) (hb : EX X c own .p W b B) : BX X c own W (.Compare a [.Lt] [b] pos) (bCmp gLt A B) := b_cmp op_lt gIB_ok ha hb (nomark _)
theorem b_le (ha : EX X c own .p W a A) (hb : EX X c own .p W b B) : BX X c own W (.Compare a [.LtE] [b] pos) (bCmp gLe A B) := b_cmp op_le gIB_ok ha hb (nomark _)
theorem b_gt (ha : EX X c own .p W a A) (hb : EX X c own .p W b B) : BX X c own W (.Compare a [.Gt] [b] pos) (bCmp gGt A B) := b_cmp op_gt gIB_ok ha hb (nomark _)
theorem b_ge (ha : EX X c own .p W a A) (hb : EX X c own .p W b B) : BX X c own W (.Compare a [.GtE] [b] pos) (bCmp gGe A B) := b_cmp op_ge gIB_ok ha hb (nomark _)
/-! -a -/
def gNeg : D → Option D
  | .int i => some (.int (-i))
  | _ => none
theorem gNeg_ok {m : Md} : UnG (rU fun i => .int (-i)) m c gNeg := by
  intro Z H φ x d z W σ Q w rx hg h
  cases d with
  | int i => cases hg; exact ⟨i, rx.int, h.nowI w⟩
  | _ => cases hg
theorem x_neg (ha : EX X c own .p W a A) : EX X c own .o W (.UnaryOp .USub a pos) (eUn gNeg A) := x_un un_neg gNeg_ok ha
end

/-! ## + and * -/
def gAdd : D → D → Option D
  | .int i, .int j => some (.int (i + j))
  | .lst l, .lst k => if l.length + k.length ≤ sizeLine then some (.lst (l ++ k)) else none
  | .str x, .str y => if x.length + y.length ≤ sizeLine then some (.str (x ++ y)) else none
  | .tup l, .tup k => if l.length + k.length ≤ sizeLine ∧ l.isEmpty = false then some (.tup (l ++ k)) else none
  | _, _ => none
def cMul (i j : Int) : Bool := decide (i.natAbs < 18446744073709551616) || decide (j.natAbs < 18446744073709551616)
def gMul : D → D → Option D
  | .int i, .int j => if cMul i j = true then some (.int (i * j)) else none
  | .lst l, .int k => if -9223372036854775808 ≤ k ∧ k < 9223372036854775808 ∧ l.length * k.toNat ≤ sizeLine then some (.lst (List.replicate k.toNat l).flatten) else none
  | _, _ => none
theorem ifs {α : Type} {p : Prop} [Decidable p] {a z : α} (h : (if p then some a else none) = some z) : p ∧ a = z := by
  by_cases q : p
  · rw [if_pos q] at h; exact ⟨q, Option.some.inj h⟩
  · rw [if_neg q] at h; cases h
theorem Reps.flat {K : PySem.W.Frag} {f : Addr} {Z : Hp} {vs : List V} {ds : List D} (r : Reps K f Z vs ds) : ∀ n, Reps K f Z (List.replicate n vs).flatten (List.replicate n ds).flatten
  | 0 => .nil
  | n + 1 => by rw [List.replicate_succ, List.replicate_succ, List.flatten_cons, List.flatten_cons]; exact r.app (r.flat n)
section
variable {X : Cx} {c : Ct} {own : List Ms} {W : WX} {a b : Expr} {A B : SX} {pos : Pos}
def rAddD (K : PySem.W.Frag) : R2 := fun x y H Q => (∃ i j, x = .int i ∧ y = .int j ∧ Q (.int (i + j)) H) ∨ rCat x y H Q ∨ (∃ i j, x = .str i ∧ y = .str j ∧ i.length + j.length ≤ sizeLine ∧ Q (.str (i ++ j)) H) ∨ rCatT K x y H Q
theorem op_addD : OpR X (binaryOp .Add) (rAddD X.K) := OpR.or op_add (OpR.or op_cat (OpR.or op_add_str op_catT))
theorem gAdd_ok : OpG (rAddD c.K) .o c gAdd := by
  intro Z H φ x y d e z W σ Q w rx ry hg h
  cases d with
  | int i =>
    cases e with
    | int j => cases hg; exact .inl ⟨i, j, rx.int, ry.int, h.nowI w⟩
    | _ => cases hg
  | str i =>
    cases e with
    | str j =>
      obtain ⟨hz, rfl⟩ := ifs hg
      exact .inr (.inr (.inl ⟨i, j, rx.str, ry.str, hz, h.nowS w⟩))
    | _ => cases hg
  | lst l =>
    cases e with
    | lst k =>
      obtain ⟨hz, rfl⟩ := ifs hg
      obtain ⟨a, vs, rfl, ha, q⟩ := rx.lst w
      obtain ⟨b, us, rfl, hb, q'⟩ := ry.lst w
      exact .inr (.inl ⟨a, b, vs, us, rfl, rfl, ha, hb, by rw [q.length, q'.length]; exact hz, h.newO w (.lst (q.app q'))⟩)
    | _ => cases hg
  | tup l =>
    cases e with
    | tup k =>
      obtain ⟨⟨hz, hne⟩, rfl⟩ := ifs hg
      obtain ⟨a, vs, rfl, ha, q⟩ := rx.tup
      obtain ⟨b, us, rfl, hb, q'⟩ := ry.tup
      refine .inr (.inr (.inr ⟨a, b, vs, us, rfl, rfl, w.sqT ha, w.sqT hb, ?_, by rw [q.length, q'.length]; exact hz, ?_, fun _ => h.newT w (q.app q')⟩))
      · rintro rfl
        cases q
        cases hne
      · rintro rfl
        cases q'
        rw [List.append_nil] at h
        exact h.now w (Res.of_flat (.tup ha q) rfl)
    | _ => cases hg
  | _ => cases hg
theorem x_add (hK : X.K = c.K) (ha : EX X c own .p W a A) (hb : EX X c own .p W b B) : EX X c own .o W (.BinOp a .Add b pos) (eBin gAdd A B) := x_bin op_addD (by rw [hK]; exact gAdd_ok) ha hb
def rMulD : R2 := fun x y H Q => rI CMul (fun i j => .int (i * j)) x y H Q ∨ rRep x y H Q
theorem op_mulD : OpR X (binaryOp .Mult) rMulD := OpR.or op_mul op_rep
theorem cMul_ok {i j : Int} (h : cMul i j = true) : CMul i j := by
  unfold cMul at h
  simp only [Bool.or_eq_true, decide_eq_true_eq] at h
  rcases h with h | h
  · exact .inl (by omega)
  · exact .inr (by omega)
theorem gMul_ok : OpG rMulD .o c gMul := by
  intro Z H φ x y d e z W σ Q w rx ry hg h
  cases d with
  | int i =>
    cases e with
    | int j =>
      obtain ⟨hz, rfl⟩ := ifs hg
      exact .inl ⟨i, j, rx.int, ry.int, cMul_ok hz, h.nowI w⟩
    | _ => cases hg
  | lst l =>
    cases e with
    | int k =>
      obtain ⟨⟨h1, h2, hz⟩, rfl⟩ := ifs hg
      obtain ⟨a, vs, rfl, ha, q⟩ := rx.lst w
      exact .inr ⟨a, k, vs, rfl, ry.int, ha, h1, h2, by rw [q.length]; exact hz, h.newO w (.lst (q.flat _))⟩
    | _ => cases hg
  | _ => cases hg
theorem x_mul (ha : EX X c own .p W a A) (hb : EX X c own .p W b B) : EX X c own .o W (.BinOp a .Mult b pos) (eBin gMul A B) := x_bin op_mulD gMul_ok ha hb
end

/-! ## equality -/
mutual
def D.py : D → PyData
  | .non => .none
  | .bl b => .bool b
  | .int i => .int i
  | .str x => .str x
  | .lst l => .list (D.pys l)
  | .tup l => .tuple (D.pys l)
  | _ => .dict []
def D.pys : List D → List PyData
  | [] => []
  | d :: ds => D.py d :: D.pys ds
end
theorem sqL_of {K : PySem.W.Frag} {H : Hp} {a : Addr} {vs : List V} (h : H a = some (.lst vs)) : SqL K H a vs := SqL.of h
mutual
theorem Rep.dp {K : PySem.W.Frag} {f : Addr} {Z : Hp} : ∀ {v : V} {d : D}, Rep K f Z v d → d.py.canLay0 = true → Dp K Z v d.py
  | _, _, .non, _ => .non
  | _, _, .bl b, _ => .bl b
  | _, _, .int b, _ => .int b
  | _, _, .str b, _ => .str b
  | _, _, .cel e q, hc => RepC.dp q e hc
  | _, _, .tup e q, hc => .tup e (Reps.dp q hc)
  | _, _, .feed, hc => (Bool.false_ne_true hc).elim
theorem RepC.dp {K : PySem.W.Frag} {f : Addr} {Z : Hp} : ∀ {o : HO} {d : D}, RepC K f Z o d → ∀ {a : Addr}, Z a = some o → d.py.canLay0 = true → Dp K Z (.ref a) d.py
  | _, _, .lst q, _, e, hc => .lst (SqL.of e) (Reps.dp q hc)
  | _, _, .dk _, _, _, hc => (Bool.false_ne_true hc).elim
  | _, _, .dt _, _, _, hc => (Bool.false_ne_true hc).elim
theorem Reps.dp {K : PySem.W.Frag} {f : Addr} {Z : Hp} : ∀ {vs : List V} {ds : List D}, Reps K f Z vs ds → PyData.canLayAll0 (D.pys ds) = true → DpAll K Z vs (D.pys ds)
  | _, _, .nil, _ => .nil
  | _, _, .cons r s, hc => by
    have hc' := (Bool.and_eq_true_iff.mp hc)
    exact .cons (Rep.dp r hc'.1) (Reps.dp s hc'.2)
end
theorem sqL_mono {K : PySem.W.Frag} {Z Z' : Hp} (h : ∀ a o, Z a = some o → Z' a = some o) {a : Addr} {vs : List V} (q : SqL K Z a vs) : SqL K Z' a vs := by
  rcases q with (q | ⟨o, q⟩) | q
  · exact .inl (.inl (h _ _ q))
  · exact .inl (.inr ⟨o, h _ _ q⟩)
  · exact .inr q
mutual
theorem Dp.mono {K : PySem.W.Frag} {Z Z' : Hp} (h : ∀ a o, Z a = some o → Z' a = some o) : ∀ {v : V} {d : PyData}, Dp K Z v d → Dp K Z' v d
  | _, _, .non => .non
  | _, _, .bl b => .bl b
  | _, _, .int b => .int b
  | _, _, .str b => .str b
  | _, _, .lst e q => .lst (sqL_mono h e) (DpAll.mono h q)
  | _, _, .tup e q => .tup (sqT_mono h e) (DpAll.mono h q)
theorem DpAll.mono {K : PySem.W.Frag} {Z Z' : Hp} (h : ∀ a o, Z a = some o → Z' a = some o) : ∀ {v : List V} {d : List PyData}, DpAll K Z v d → DpAll K Z' v d
  | _, _, .nil => .nil
  | _, _, .cons r s => .cons (Dp.mono h r) (DpAll.mono h s)
end
section
variable {X : Cx} {c : Ct} {own : List Ms} {m : Md} {W : WX} {a b : Expr} {A B : SX} {pos : Pos}
theorem Res.dp {Z H : Hp} {φ : Fd} {v : V} {d : D} (w : Wf c.K c.f Z H φ) (r : Res .p c.K c.f H Z H v d) (hc : d.py.canLay0 = true) : Dp c.K H v d.py := by
  rcases r with r | ⟨a, o, rfl, hz, hf, ha, rc⟩
  · exact Dp.mono w.sub (Rep.dp r hc)
  · cases rc with
    | lst q => exact .lst (SqL.of ha) (DpAll.mono w.sub (Reps.dp q hc))
    | dk q => cases hc
    | dt q => cases hc
def D.shp (d : D) : Bool := SeqAt.shaped d.py
def gEq : D → D → Option D := fun d e => if d.shp && e.shp then some (.bl (PyData.eqv d.py e.py)) else none
def gNe : D → D → Option D := fun d e => if d.shp && e.shp then some (.bl (!PyData.eqv d.py e.py)) else none
theorem gEq_ok : OpG (rEqD c.K) m c gEq := by
  intro Z H φ x y d e z W σ Q w rx ry hg h
  obtain ⟨hs, rfl⟩ := ifs hg
  rw [Bool.and_eq_true] at hs
  exact ⟨_, _, rx.dp w (SeqAt.canLay_of_shaped hs.1), ry.dp w (SeqAt.canLay_of_shaped hs.2), hs.1, hs.2, h.nowB w⟩
theorem gNe_ok : OpG (rNeD c.K) m c gNe := by
  intro Z H φ x y d e z W σ Q w rx ry hg h
  obtain ⟨hs, rfl⟩ := ifs hg
  rw [Bool.and_eq_true] at hs
  exact ⟨_, _, rx.dp w (SeqAt.canLay_of_shaped hs.1), ry.dp w (SeqAt.canLay_of_shaped hs.2), hs.1, hs.2, h.nowB w⟩
theorem x_eq (hK : X.K = c.K) (hu : X.A.units + 64 < cLine) (ha : EX X c own .p W a A) (hb : EX X c own .p W b B) : EX X c own .o W (.Compare a [.Eq] [b] pos) (eBin gEq A B) := x_cmp (op_eqD hu) (by rw [hK]; exact gEq_ok) ha hb (nomark _)
theorem x_ne (hK : X.K = c.K) (hu : X.A.units + 64 < cLine) (ha : EX X c own .p W a A) (hb : EX X c own .p W b B) : EX X c own .o W (.Compare a [.NotEq] [b] pos) (eBin gNe A B) := x_cmp (op_neD hu) (by rw [hK]; exact gNe_ok) ha hb (nomark _)
theorem b_eq (hK : X.K = c.K) (hu : X.A.units + 64 < cLine) (ha : EX X c own .p W a A) (hb : EX X c own .p W b B) : BX X c own W (.Compare a [.Eq] [b] pos) (bCmp gEq A B) := b_cmp (op_eqD hu) (by rw [hK]; exact gEq_ok) ha hb (nomark _)
theorem b_ne (hK : X.K = c.K) (hu : X.A.units + 64 < cLine) (ha : EX X c own .p W a A) (hb : EX X c own .p W b B) : BX X c own W (.Compare a [.NotEq] [b] pos) (bCmp gNe A B) := b_cmp (op_neD hu) (by rw [hK]; exact gNe_ok) ha hb (nomark _)

/-! ## is None -/
def D.isNon : D → Bool
  | .non => true
  | _ => false
def gIs : D → D → Option D := fun d e => if e.isNon = true then some (.bl d.isNon) else none
def gIsNot : D → D → Option D := fun d e => if e.isNon = true then some (.bl (!d.isNon)) else none
theorem isNon_ok {Z H H0 : Hp} {v : V} {d : D} (r : Res .p c.K c.f H0 Z H v d) : decide (v = .non) = d.isNon := by
  rcases r with r | ⟨a, o, rfl, hz, hf, ha, rc⟩
  · cases r with
    | cel _ q => cases q <;> rfl
    | _ => rfl
  · cases rc <;> rfl
theorem gIs_ok : OpG (fun x y H Q => y = .non ∧ Q (.bl (decide (x = .non))) H) m c gIs := by
  intro Z H φ x y d e z W σ Q w rx ry hg h
  obtain ⟨hs, rfl⟩ := ifs hg
  have := isNon_ok ry
  rw [hs] at this
  refine ⟨of_decide_eq_true this, ?_⟩
  rw [isNon_ok rx]
  exact h.nowB w
theorem gIsNot_ok : OpG (fun x y H Q => y = .non ∧ Q (.bl (!decide (x = .non))) H) m c gIsNot := by
  intro Z H φ x y d e z W σ Q w rx ry hg h
  obtain ⟨hs, rfl⟩ := ifs hg
  have := isNon_ok ry
  rw [hs] at this
  refine ⟨of_decide_eq_true this, ?_⟩
  rw [isNon_ok rx]
  exact h.nowB w
theorem x_is (ha : EX X c own .p W a A) (hb : EX X c own .p W b B) : EX X c own .o W (.Compare a [.Is] [b] pos) (eBin gIs A B) := x_cmp op_isN gIs_ok ha hb (nomark _)
theorem x_isnot (ha : EX X c own .p W a A) (hb : EX X c own .p W b B) : EX X c own .o W (.Compare a [.IsNot] [b] pos) (eBin gIsNot A B) := x_cmp op_notN gIsNot_ok ha hb (nomark _)
theorem b_is (ha : EX X c own .p W a A) (hb : EX X c own .p W b B) : BX X c own W (.Compare a [.Is] [b] pos) (bCmp gIs A B) := b_cmp op_isN gIs_ok ha hb (nomark _)
theorem b_isnot (ha : EX X c own .p W a A) (hb : EX X c own .p W b B) : BX X c own W (.Compare a [.IsNot] [b] pos) (bCmp gIsNot A B) := b_cmp op_notN gIsNot_ok ha hb (nomark _)

/-! ## in -/
def D.flatV : D → Option V
  | .non => some .non
  | .bl b => some (.bl b)
  | .int i => some (.int i)
  | .str x => some (.str x)
  | _ => none
def flatVs : List D → Option (List V)
  | [] => some []
  | d :: ds => match d.flatV, flatVs ds with
    | some v, some vs => some (v :: vs)
    | _, _ => none
theorem flatV_ok {m : Md} {Z H H0 : Hp} {x v : V} {d : D} (e : d.flatV = some v) (r : Res m c.K c.f H0 Z H x d) : x = v ∧ L2.flatV v = true := by
  cases d with
  | non => cases e; exact ⟨r.non, rfl⟩
  | bl b => cases e; exact ⟨r.bl, rfl⟩
  | int b => cases e; exact ⟨r.int, rfl⟩
  | str b => cases e; exact ⟨r.str, rfl⟩
  | _ => cases e
theorem flatVs_ok {Z : Hp} : ∀ {xs vs : List V} {ds : List D}, flatVs ds = some vs → Reps c.K c.f Z xs ds → xs = vs ∧ vs.all L2.flatV = true
  | _, _, [], e, .nil => by cases e; exact ⟨rfl, rfl⟩
  | _, _, d :: ds, e, .cons r s => by
    unfold flatVs at e
    split at e
    · rename_i v vs h1 h2
      cases e
      obtain ⟨rfl, h3⟩ := flatV_ok (m := .s) (H0 := Z) (H := Z) h1 r
      obtain ⟨rfl, h4⟩ := flatVs_ok h2 s
      exact ⟨rfl, by rw [List.all_cons, h3, h4]; rfl⟩
    · cases e
def gInT (d : D) (l : List D) : Option Bool := match d.flatV, flatVs l with
  | some v, some vs => some (inV v vs)
  | _, _ => none
theorem gInT_ok {d : D} {l : List D} {b : Bool} (h : gInT d l = some b) : ∃ v vs, d.flatV = some v ∧ flatVs l = some vs ∧ b = inV v vs := by
  unfold gInT at h
  cases e1 : d.flatV with
  | none => rw [e1] at h; cases h
  | some v =>
    cases e2 : flatVs l with
    | none => rw [e1, e2] at h; cases h
    | some vs => rw [e1, e2] at h; cases h; exact ⟨v, vs, rfl, rfl, rfl⟩
def gInB : D → D → Option Bool
  | d, .lst l => if d.shp && (D.lst l).shp then some (l.any fun z => PyData.eqv z.py d.py) else none
  | d, .tup l => gInT d l
  | .str i, .str j => some (!(Builtin.Str.occurrences j i 0 j.length 1).isEmpty)
  | _, _ => none
def gIn (neg : Bool) : D → D → Option D := fun d e => (gInB d e).map fun b => .bl (if neg then !b else b)
def rInD' (K : PySem.W.Frag) (neg : Bool) : R2 := fun x y H Q => (∃ d ds, Dp K H x d ∧ Dp K H y (.list ds) ∧ SeqAt.shaped d = true ∧ SeqAt.shaped (.list ds) = true ∧ Q (.bl (if neg then !(ds.any fun z => PyData.eqv z d) else ds.any fun z => PyData.eqv z d)) H) ∨ rIn K neg x y H Q ∨
  ∃ i j, x = .str i ∧ y = .str j ∧ Q (.bl (if neg then !(!(Builtin.Str.occurrences j i 0 j.length 1).isEmpty) else !(Builtin.Str.occurrences j i 0 j.length 1).isEmpty)) H
theorem op_inD' (hu : X.A.units + 65 < cLine) : OpR X (compareOp .In) (rInD' X.K false) := OpR.or (op_inD hu) (OpR.or op_in_seq op_in_str)
theorem op_notInD' (hu : X.A.units + 65 < cLine) : OpR X (compareOp .NotIn) (rInD' X.K true) := OpR.or (op_notInD hu) (OpR.or op_notIn_seq op_notIn_str)
theorem any_pys (e : PyData) : ∀ l : List D, (D.pys l).any (fun z => PyData.eqv z e) = l.any fun z => PyData.eqv z.py e
  | [] => rfl
  | d :: l => by rw [List.any_cons]; show ((d.py :: D.pys l).any _) = _; rw [List.any_cons, any_pys e l]
theorem gIn_ok (neg : Bool) : OpG (rInD' c.K neg) m c (gIn neg) := by
  intro Z H φ x y d e z W σ Q w rx ry hg h
  obtain ⟨b, hb, rfl⟩ := Option.map_eq_some_iff.mp hg
  cases e with
  | lst l =>
    obtain ⟨hs, rfl⟩ := ifs hb
    rw [Bool.and_eq_true] at hs
    refine .inl ⟨_, _, rx.dp w (SeqAt.canLay_of_shaped hs.1), ry.dp w (SeqAt.canLay_of_shaped hs.2), hs.1, hs.2, ?_⟩
    rw [any_pys]
    exact h.nowB w
  | tup l =>
    have hb' : gInT d l = some b := by cases d <;> exact hb
    obtain ⟨v, vs, h1, h2, rfl⟩ := gInT_ok hb'
    obtain ⟨rfl, h3⟩ := flatV_ok h1 rx
    obtain ⟨p, us, rfl, hp, q⟩ := ry.tup
    obtain ⟨rfl, h4⟩ := flatVs_ok h2 q
    exact .inr (.inl ⟨p, us, rfl, .inr (w.sqT hp), h3, h4, h.nowB w⟩)
  | str j =>
    cases d with
    | str i => cases hb; exact .inr (.inr ⟨i, j, rx.str, ry.str, h.nowB w⟩)
    | _ => cases hb
  | _ => cases d <;> cases hb
theorem x_in (hK : X.K = c.K) (hu : X.A.units + 65 < cLine) (ha : EX X c own .p W a A) (hb : EX X c own .p W b B) (hm : behindInMarks .In b = false := by rfl) : EX X c own .o W (.Compare a [.In] [b] pos) (eBin (gIn false) A B) := x_cmp (op_inD' hu) (by rw [hK]; exact gIn_ok false) ha hb hm
theorem x_notin (hK : X.K = c.K) (hu : X.A.units + 65 < cLine) (ha : EX X c own .p W a A) (hb : EX X c own .p W b B) (hm : behindInMarks .NotIn b = false := by rfl) : EX X c own .o W (.Compare a [.NotIn] [b] pos) (eBin (gIn true) A B) := x_cmp (op_notInD' hu) (by rw [hK]; exact gIn_ok true) ha hb hm
theorem b_in (hK : X.K = c.K) (hu : X.A.units + 65 < cLine) (ha : EX X c own .p W a A) (hb : EX X c own .p W b B) (hm : behindInMarks .In b = false := by rfl) : BX X c own W (.Compare a [.In] [b] pos) (bCmp (gIn false) A B) := b_cmp (op_inD' hu) (by rw [hK]; exact gIn_ok false) ha hb hm
theorem b_notin (hK : X.K = c.K) (hu : X.A.units + 65 < cLine) (ha : EX X c own .p W a A) (hb : EX X c own .p W b B) (hm : behindInMarks .NotIn b = false := by rfl) : BX X c own W (.Compare a [.NotIn] [b] pos) (bCmp (gIn true) A B) := b_cmp (op_notInD' hu) (by rw [hK]; exact gIn_ok true) ha hb hm
end
end Pf

set_option Elab.async false
set_option linter.all false
set_option maxRecDepth 100000
set_option maxHeartbeats 4000000
namespace Pf
open PySem PySem.Spec PyProof.Rows L2

/-! ## places of lists -/
theorem atI_get {α : Type} {xs : List α} {i : Int} {x : α} (h : atI xs i = some x) : ∃ j, ixN xs.length i = some j ∧ xs[j]? = some x := by
  unfold atI at h
  cases e : ixN xs.length i with
  | none => rw [e] at h; cases h
  | some j => rw [e] at h; exact ⟨j, rfl, h⟩
theorem atI_reps {K : PySem.W.Frag} {f : Addr} {Z : Hp} {vs : List V} {ds : List D} {i : Int} {x : D} (r : Reps K f Z vs ds) (h : atI ds i = some x) : ∃ y, atI vs i = some y ∧ Rep K f Z y x := by
  obtain ⟨j, h1, h2⟩ := atI_get h
  obtain ⟨y, h3, h4⟩ := r.get h2
  refine ⟨y, ?_, h4⟩
  unfold atI
  rw [r.length, h1]
  exact h3
def gIx : D → D → Option D
  | .lst l, .int i => atI l i
  | .tup l, .int i => atI l i
  | .str z, .int i => if z.length ≤ sizeLine then (atI z.cps.toList i).map (fun k => .str ⟨#[k]⟩) else none
  | _, _ => none
section
variable {X : Cx} {c : Ct} {own : List Ms} {m : Md} {W : WX} {a b : Expr} {A B : SX} {pos : Pos}
theorem gIx_ok : OpG (rIx c.K) .s c gIx := by
  intro Z H φ x y d e z W σ Q w rx ry hg h
  cases d with
  | lst l =>
    cases e with
    | int i =>
      obtain ⟨p, vs, rfl, hp, q⟩ := rx.lst w
      obtain ⟨u, hu, r⟩ := atI_reps q hg
      exact .inl ⟨p, vs, i, u, rfl, ry.int, SqL.of hp, hu, h.now w r⟩
    | _ => cases hg
  | tup l =>
    cases e with
    | int i =>
      obtain ⟨p, vs, rfl, hp, q⟩ := rx.tup
      obtain ⟨u, hu, r⟩ := atI_reps q hg
      exact .inr (.inl ⟨p, vs, i, u, rfl, ry.int, w.sqT hp, hu, h.now w r⟩)
    | _ => cases hg
  | str s =>
    cases e with
    | int i =>
      have hg' : (if s.length ≤ sizeLine then (atI s.cps.toList i).map (fun k => D.str ⟨#[k]⟩) else none) = some z := hg
      by_cases hs : s.length ≤ sizeLine
      · rw [if_pos hs] at hg'
        obtain ⟨k, hk, rfl⟩ := Option.map_eq_some_iff.mp hg'
        exact .inr (.inr ⟨s, i, k, rx.str, ry.int, hs, hk, h.nowS w⟩)
      · rw [if_neg hs] at hg'; cases hg'
    | _ => cases hg
  | _ => cases e <;> cases hg
theorem x_ix (hK : X.K = c.K) (ha : EX X c own .p W a A) (hb : EX X c own .p W b B) (hs : PlainIx b := by exact fun _ _ => rfl) : EX X c own .s W (.Subscript a b pos) (eBin gIx A B) :=
  PE.weak (pe_ix (ix_seq (X := X)) ha hb hs) fun _ _ _ h => by rw [hK]; exact bin_core gIx_ok h

/-! ## slices -/
abbrev SO := En → Fd → O (Option Int)
def PostO (c : Ct) (W : WX) (o : O (Option Int)) (σ : L2.St) (Z H : Hp) (Q : Option Int → Hp → Prop) : Prop :=
  match o with
  | .ok d φ => ∀ Z' H', Ext c.f Z H Z' H' → Wf c.K c.f Z' H' φ → Q d H'
  | .ex x l φ => ∀ cls dx Z' H', Ext c.f Z H Z' H' → Wf c.K c.f Z' H' φ → XRep c Z' H' x l cls dx → W cls dx σ H'
  | .bad => False
def tO (c : Ct) (own : List Ms) (W : WX) (A : SO) : TO := fun σ H Q => ∃ Z ρ φ, Rl c own Z ρ φ σ H ∧ PostO c W (A ρ φ) σ Z H Q
theorem PostO.shift {Z H Z1 H1 : Hp} {σ : L2.St} {o : O (Option Int)} {Q : Option Int → Hp → Prop} (e : Ext c.f Z H Z1 H1) (h : PostO c W o σ Z H Q) : PostO c W o σ Z1 H1 Q := by
  cases o with
  | ok d φ => exact fun Z' H' e' w => h Z' H' (e.trans e') w
  | ex x l φ => exact fun cls dx Z' H' e' w r => h cls dx Z' H' (e.trans e') w r
  | bad => exact h
theorem Post.bindO {m1 : Md} {Z H : Hp} {σ : L2.St} {x : O D} {k : D → Fd → O (Option Int)} {Q : Option Int → Hp → Prop} {R : VK} (h : PostO c W (x.bind k) σ Z H Q)
    (hr : ∀ d φ1 v Z1 H1, Ext c.f Z H Z1 H1 → Wf c.K c.f Z1 H1 φ1 → Res m1 c.K c.f H Z1 H1 v d → PostO c W (k d φ1) σ Z1 H1 Q → R v H1) : Post c m1 W x σ Z H R :=
  Post.bind (E := fun o Z H => PostO c W o σ Z H Q) (fun _ _ _ e h => h.shift e) (fun _ _ _ h => h) (fun h => h) h hr
theorem PostO.bindE {Z H : Hp} {σ : L2.St} {x : O (Option Int)} {k : Option Int → Fd → O D} {Q : VK} {R : Option Int → Hp → Prop} (h : Post c m W (x.bind k) σ Z H Q)
    (hr : ∀ d φ1 Z1 H1, Ext c.f Z H Z1 H1 → Wf c.K c.f Z1 H1 φ1 → Post c m W (k d φ1) σ Z1 H1 Q → R d H1) : PostO c W x σ Z H R := by
  cases x with
  | ok d φ => exact fun Z' H' e w => hr d φ Z' H' e w (Post.shift e h)
  | ex y l φ => exact h
  | bad => exact h
abbrev OX (X : Cx) (c : Ct) (own : List Ms) (W : WX) (e : Option Expr) (A : SO) : Prop := PO X e (tO c own W A)
theorem PO.weak {e : Option Expr} {t t' : TO} (h : PO X e t) (k : ∀ σ H Q, t' σ H Q → t σ H Q) : PO X e t' := ⟨fun pins s σ H Q I q => h.run pins s σ H Q I (k σ H Q q)⟩
def oNone : SO := fun _ φ => .ok none φ
def oSome (A : SX) : SO := fun ρ φ => (A ρ φ).bind fun d φ1 => match d with | .int i => .ok (some i) φ1 | _ => .bad
theorem o_none : OX X c own W none oNone := PO.weak po_none fun σ H Q ⟨Z, ρ, φ, R, h⟩ => h Z H .refl R.wf
theorem o_some (ha : EX X c own .p W a A) : OX X c own W (some a) (oSome A) := by
  refine PO.weak (po_some ha) ?_
  rintro σ H Q ⟨Z, ρ, φ, R, h⟩
  refine ⟨Z, ρ, φ, R, Post.bindO h fun d φ1 v Z1 H1 e1 w1 r1 h1 => ?_⟩
  cases d with
  | int i => exact ⟨i, r1.int, h1 Z1 H1 .refl w1⟩
  | _ => exact h1.elim
def cutD (xs : List D) (lo hi : Option Int) : List D := (xs.drop (HT.sIx xs.length 0 lo)).take (HT.sIx xs.length xs.length hi - HT.sIx xs.length 0 lo)
theorem cut_reps {K : PySem.W.Frag} {f : Addr} {Z : Hp} {vs : List V} {ds : List D} (r : Reps K f Z vs ds) (lo hi : Option Int) : Reps K f Z (cutV vs lo hi) (cutD ds lo hi) := by
  unfold cutV cutD
  rw [r.length]
  exact (r.drop _).take _
def gSl (d : D) (lo hi : Option Int) : Option D := match d with
  | .lst l => some (.lst (cutD l lo hi))
  | .str z => if z.length ≤ sizeLine then some (.str (cutS z lo hi)) else none
  | .tup l => if HT.sIx l.length 0 lo = 0 ∧ HT.sIx l.length l.length hi = l.length then none else some (.tup (cutD l lo hi))
  | _ => none
def eSl (A : SX) (L U : SO) : SX := fun ρ φ => (A ρ φ).bind fun d φ1 => (L ρ φ1).bind fun lo φ2 => (U ρ φ2).bind fun hi φ3 => ofO (gSl d lo hi) φ3
theorem x_sl (hK : X.K = c.K) {lo hi : Option Expr} {L U : SO} {p2 : Pos} (ha : EX X c own .p W a A) (hl : OX X c own W lo L) (hu : OX X c own W hi U) : EX X c own .o W (.Subscript a (.Slice lo hi none p2) pos) (eSl A L U) := by
  refine PE.weak (pe_slice (SlR.or sl_list (SlR.or sl_str sl_tup)) ha hl hu) ?_
  rintro σ H Q ⟨Z, ρ, φ, R, h⟩
  refine ⟨Z, ρ, φ, R, Post.bindE h fun d φ1 x Z1 H1 e1 w1 r1 h1 => ?_⟩
  refine ⟨Z1, ρ, φ1, R.more e1 w1, PostO.bindE h1 fun lo φ2 Z2 H2 e2 w2 h2 => ?_⟩
  refine ⟨Z2, ρ, φ2, (R.more e1 w1).more e2 w2, PostO.bindE h2 fun hi φ3 Z3 H3 e3 w3 h3 => ?_⟩
  obtain ⟨z, hz, h4⟩ := ofO_ok (E := fun o => Post c .o W o σ Z3 H3 Q) h3 fun z => z
  have r3 : Res .p c.K c.f H3 Z3 H3 x d := (r1.pmono e2).pmono e3
  cases d with
  | lst l =>
    cases hz
    obtain ⟨p, vs, rfl, hp, q⟩ := r3.lst w3
    exact .inl ⟨p, vs, rfl, SqL.of hp, h4.newO w3 (.lst (cut_reps q _ _))⟩
  | str s =>
    obtain ⟨hs, rfl⟩ := ifs hz
    exact .inr (.inl ⟨s, r3.str, hs, h4.nowS w3⟩)
  | tup l =>
    have hz' : (if HT.sIx l.length 0 lo = 0 ∧ HT.sIx l.length l.length hi = l.length then none else some (D.tup (cutD l lo hi))) = some z := hz
    by_cases hw : HT.sIx l.length 0 lo = 0 ∧ HT.sIx l.length l.length hi = l.length
    · rw [if_pos hw] at hz'; cases hz'
    · rw [if_neg hw] at hz'; cases hz'
      obtain ⟨p, vs, rfl, hp, q⟩ := r3.tup
      exact .inr (.inr ⟨p, vs, rfl, by rw [hK]; exact w3.sqT hp, by rw [q.length]; exact hw, h4.newT w3 (cut_reps q _ _)⟩)
  | _ => cases hz
def gRev : D → Option D
  | .lst l => some (.lst l.reverse)
  | _ => none
/-- xs[::-1], a list -/
theorem x_rev {k : Nat} {p1 p2 p3 : Pos} (ha : EX X c own .p W a A) : EX X c own .o W (.Subscript a (.Slice none none (some (.UnaryOp .USub (.Constant (.int 1) k p1) p2)) p3) pos) (eUn gRev A) := by
  refine PE.weak (pe_revL ha) ?_
  rintro σ H Q ⟨Z, ρ, φ, R, h⟩
  refine ⟨Z, ρ, φ, R, Post.bindE h fun d φ1 x Z1 H1 e1 w1 r1 h1 => ?_⟩
  obtain ⟨z, hz, h4⟩ := ofO_ok (E := fun o => Post c .o W o σ Z1 H1 Q) h1 fun z => z
  cases d with
  | lst l =>
    cases hz
    obtain ⟨p, vs, rfl, hp, q⟩ := (show Res .p c.K c.f H1 Z1 H1 x _ from r1).lst w1
    exact ⟨p, vs, rfl, SqL.of hp, h4.newO w1 (.lst q.rev)⟩
  | _ => cases hz

/-! ## built-in functions -/
theorem RAll.one {Z H H0 : Hp} {xs : List V} {d : D} (r : RAll .p c.K c.f H0 Z H xs [d]) : ∃ x, xs = [x] ∧ Res .p c.K c.f H0 Z H x d := by
  match xs, r with
  | [x], r => exact ⟨x, rfl, r.1⟩
  | _ :: _ :: _, r => exact r.2.elim
theorem RAll.two {Z H H0 : Hp} {xs : List V} {d e : D} (r : RAll .p c.K c.f H0 Z H xs [d, e]) : ∃ x y, xs = [x, y] ∧ Res .p c.K c.f H0 Z H x d ∧ Res .p c.K c.f H0 Z H y e := by
  match xs, r with
  | [x, y], r => exact ⟨x, y, rfl, r.1, r.2.1⟩
  | [_], r => exact r.2.elim
  | _ :: _ :: _ :: _, r => exact r.2.2.elim
def gLen : List D → Option D
  | [.lst l] => some (.int l.length)
  | [.tup l] => some (.int l.length)
  | [.str z] => if z.length ≤ sizeLine then some (.int z.length) else none
  | _ => none
theorem gLen_ok : CallG (fun xs H Q => ∃ x n, xs = [x] ∧ LenV c.K x H n ∧ Q (.int n) H) m c gLen := by
  intro Z H φ xs ds z W σ Q w r hg h
  match ds, hg, r with
  | [.lst l], hg, r =>
    cases hg
    obtain ⟨x, rfl, rr⟩ := r.one
    have r := rr
    obtain ⟨p, vs, rfl, hp, q⟩ := r.lst w
    exact ⟨_, _, rfl, .inl ⟨vs, SqL.of hp, q.length.symm⟩, h.nowI w⟩
  | [.tup l], hg, r =>
    cases hg
    obtain ⟨x, rfl, rr⟩ := r.one
    have r := rr
    obtain ⟨p, vs, rfl, hp, q⟩ := r.tup
    exact ⟨_, _, rfl, .inr ⟨vs, w.sqT hp, q.length.symm⟩, h.nowI w⟩
  | [.str s], hg, r =>
    obtain ⟨hz, rfl⟩ := ifs hg
    obtain ⟨x, rfl, rr⟩ := r.one
    have r := rr
    exact ⟨_, _, rfl, by rw [r.str]; exact ⟨hz, rfl⟩, h.nowI w⟩
def gList : List D → Option D
  | [.lst l] => some (.lst l)
  | [.tup l] => some (.lst l)
  | _ => none
theorem gList_ok : CallG (fun xs H Q => ∃ p ys, xs = [.ref p] ∧ (SqL c.K H p ys ∨ SqT c.K H p ys) ∧ ∀ l, H l = none → Q (.ref l) (upd H l (.lst ys))) .o c gList := by
  intro Z H φ xs ds z W σ Q w r hg h
  match ds, hg, r with
  | [.lst l], hg, r =>
    cases hg
    obtain ⟨x, rfl, rr⟩ := r.one
    have r := rr
    obtain ⟨p, vs, rfl, hp, q⟩ := r.lst w
    exact ⟨_, _, rfl, .inl (SqL.of hp), h.newO w (.lst q)⟩
  | [.tup l], hg, r =>
    cases hg
    obtain ⟨x, rfl, rr⟩ := r.one
    have r := rr
    obtain ⟨p, vs, rfl, hp, q⟩ := r.tup
    exact ⟨_, _, rfl, .inr (w.sqT hp), h.newO w (.lst q)⟩
def gTuple : List D → Option D
  | [.lst l] => some (.tup l)
  | [.tup l] => some (.tup l)
  | _ => none
theorem gTuple_ok : CallG (fun xs H Q => ∃ p ys, xs = [.ref p] ∧ ((SqL c.K H p ys ∧ ∀ l, H l = none → Q (.ref l) (upd H l (.tup ys))) ∨ (SqT c.K H p ys ∧ Q (.ref p) H))) m c gTuple := by
  intro Z H φ xs ds z W σ Q w r hg h
  match ds, hg, r with
  | [.lst l], hg, r =>
    cases hg
    obtain ⟨x, rfl, rr⟩ := r.one
    have r := rr
    obtain ⟨p, vs, rfl, hp, q⟩ := r.lst w
    exact ⟨_, _, rfl, .inl ⟨SqL.of hp, h.newT w q⟩⟩
  | [.tup l], hg, r =>
    cases hg
    obtain ⟨x, rfl, rr⟩ := r.one
    have r := rr
    have hf := r.flat rfl
    obtain ⟨p, vs, rfl, hp, q⟩ := r.tup
    exact ⟨_, _, rfl, .inr ⟨w.sqT hp, h.now w (Res.of_flat hf rfl)⟩⟩
def gAbs : List D → Option D
  | [.int i] => some (.int (if i < 0 then -i else i))
  | _ => none
theorem gAbs_ok : CallG (fun xs H Q => ∃ i, xs = [.int i] ∧ Q (.int (if i < 0 then -i else i)) H) m c gAbs := by
  intro Z H φ xs ds z W σ Q w r hg h
  match ds, hg, r with
  | [.int i], hg, r =>
    cases hg
    obtain ⟨x, rfl, rr⟩ := r.one
    have r := rr
    exact ⟨i, by rw [r.int], h.nowI w⟩
def b2z (b : Bool) : Int := if b then 1 else 0
def gInt : List D → Option D
  | [.int i] => some (.int i)
  | [.bl b] => some (.int (b2z b))
  | _ => none
theorem gInt_ok : CallG (fun xs H Q => (∃ i, xs = [.int i] ∧ Q (.int i) H) ∨ ∃ k, xs = [.bl k] ∧ Q (.int (if k then 1 else 0)) H) m c gInt := by
  intro Z H φ xs ds z W σ Q w r hg h
  match ds, hg, r with
  | [.int i], hg, r =>
    cases hg
    obtain ⟨x, rfl, rr⟩ := r.one
    have r := rr
    exact .inl ⟨i, by rw [r.int], h.nowI w⟩
  | [.bl b], hg, r =>
    cases hg
    obtain ⟨x, rfl, rr⟩ := r.one
    have r := rr
    exact .inr ⟨b, by rw [r.bl], h.nowI w⟩
def gMax2 : List D → Option D
  | [.int i, .int j] => some (.int (if j > i then j else i))
  | _ => none
def gMin2 : List D → Option D
  | [.int i, .int j] => some (.int (if j < i then j else i))
  | _ => none
theorem gMax2_ok : CallG (fun xs H Q => ∃ i j, xs = [.int i, .int j] ∧ Q (.int (if j > i then j else i)) H) m c gMax2 := by
  intro Z H φ xs ds z W σ Q w r hg h
  match ds, hg, r with
  | [.int i, .int j], hg, r =>
    cases hg
    obtain ⟨x, y, rfl, rr, r'⟩ := r.two
    have r := rr
    exact ⟨i, j, by rw [r.int, r'.int], h.nowI w⟩
theorem gMin2_ok : CallG (fun xs H Q => ∃ i j, xs = [.int i, .int j] ∧ Q (.int (if j < i then j else i)) H) m c gMin2 := by
  intro Z H φ xs ds z W σ Q w r hg h
  match ds, hg, r with
  | [.int i, .int j], hg, r =>
    cases hg
    obtain ⟨x, y, rfl, rr, r'⟩ := r.two
    have r := rr
    exact ⟨i, j, by rw [r.int, r'.int], h.nowI w⟩
def intsOf : List D → Option (List Int)
  | [] => some []
  | .int i :: r => match intsOf r with | some l => some (i :: l) | none => none
  | _ => none
def blsOf : List D → Option (List Bool)
  | [] => some []
  | .bl i :: r => match blsOf r with | some l => some (i :: l) | none => none
  | _ => none
theorem intsOf_inv : ∀ {ds : List D} {ns : List Int}, intsOf ds = some ns → ds = ns.map D.int
  | [], ns, h => by cases h; rfl
  | .int i :: r, ns, h => by
    cases e : intsOf r with
    | none => rw [intsOf, e] at h; cases h
    | some l => rw [intsOf, e] at h; cases h; rw [intsOf_inv e]; rfl
  | .non :: _, _, h => by cases h
  | .bl _ :: _, _, h => by cases h
  | .str _ :: _, _, h => by cases h
  | .lst _ :: _, _, h => by cases h
  | .tup _ :: _, _, h => by cases h
  | .dk _ :: _, _, h => by cases h
  | .dt _ :: _, _, h => by cases h
  | .feed :: _, _, h => by cases h
  | .exn _ _ :: _, _, h => by cases h
theorem intsOf_map : ∀ ns : List Int, intsOf (ns.map D.int) = some ns
  | [] => rfl
  | n :: r => by rw [List.map_cons, intsOf, intsOf_map r]
theorem blsOf_inv : ∀ {ds : List D} {ns : List Bool}, blsOf ds = some ns → ds = ns.map D.bl
  | [], ns, h => by cases h; rfl
  | .bl i :: r, ns, h => by
    cases e : blsOf r with
    | none => rw [blsOf, e] at h; cases h
    | some l => rw [blsOf, e] at h; cases h; rw [blsOf_inv e]; rfl
  | .non :: _, _, h => by cases h
  | .int _ :: _, _, h => by cases h
  | .str _ :: _, _, h => by cases h
  | .lst _ :: _, _, h => by cases h
  | .tup _ :: _, _, h => by cases h
  | .dk _ :: _, _, h => by cases h
  | .dt _ :: _, _, h => by cases h
  | .feed :: _, _, h => by cases h
  | .exn _ _ :: _, _, h => by cases h
theorem blsOf_map : ∀ ns : List Bool, blsOf (ns.map D.bl) = some ns
  | [] => rfl
  | n :: r => by rw [List.map_cons, blsOf, blsOf_map r]
theorem Reps.bls_inv {K : PySem.W.Frag} {f : Addr} {Z : Hp} : ∀ {v : List V} {ns : List Bool}, Reps K f Z v (ns.map D.bl) → v = ns.map V.bl
  | _, [], h => by cases h; rfl
  | _, n :: r, h => by
    cases h with
    | cons a b =>
      cases a with
      | bl => rw [Reps.bls_inv b]; rfl
      | cel _ q => cases q
def gSum : List D → Option D
  | [.lst l] => (intsOf l).map fun ns => .int ns.sum
  | _ => none
theorem ints_arg {Z H : Hp} {φ : Fd} {x : V} {l : List D} {ns : List Int} (w : Wf c.K c.f Z H φ) (r : Res .p c.K c.f H Z H x (.lst l)) (e : intsOf l = some ns) : ∃ p, x = .ref p ∧ SqL c.K H p (ns.map V.int) := by
  obtain ⟨p, vs, rfl, hp, q⟩ := r.lst w
  rw [intsOf_inv e] at q
  rw [q.ints_inv] at hp
  exact ⟨p, rfl, SqL.of hp⟩
theorem bls_arg {Z H : Hp} {φ : Fd} {x : V} {l : List D} {ns : List Bool} (w : Wf c.K c.f Z H φ) (r : Res .p c.K c.f H Z H x (.lst l)) (e : blsOf l = some ns) : ∃ p, x = .ref p ∧ SqL c.K H p (ns.map V.bl) := by
  obtain ⟨p, vs, rfl, hp, q⟩ := r.lst w
  rw [blsOf_inv e] at q
  rw [q.bls_inv] at hp
  exact ⟨p, rfl, SqL.of hp⟩
theorem gSum_ok : CallG (rSum c.K) m c gSum := by
  intro Z H φ xs ds z W σ Q w r hg h
  match ds, hg, r with
  | [.lst l], hg, r =>
    obtain ⟨ns, e, rfl⟩ := Option.map_eq_some_iff.mp hg
    obtain ⟨x, rfl, rr⟩ := r.one
    have r := rr
    obtain ⟨p, rfl, hp⟩ := ints_arg w r e
    exact ⟨p, ns, rfl, hp, h.nowI w⟩
def gAny : List D → Option D
  | [.lst l] => (blsOf l).map fun ns => .bl (ns.any id)
  | _ => none
def gAll : List D → Option D
  | [.lst l] => (blsOf l).map fun ns => .bl (ns.all id)
  | _ => none
theorem gAny_ok : CallG (rAny c.K) m c gAny := by
  intro Z H φ xs ds z W σ Q w r hg h
  match ds, hg, r with
  | [.lst l], hg, r =>
    obtain ⟨ns, e, rfl⟩ := Option.map_eq_some_iff.mp hg
    obtain ⟨x, rfl, rr⟩ := r.one
    have r := rr
    obtain ⟨p, rfl, hp⟩ := bls_arg w r e
    exact ⟨p, ns, rfl, hp, h.nowB w⟩
theorem gAll_ok : CallG (rAll c.K) m c gAll := by
  intro Z H φ xs ds z W σ Q w r hg h
  match ds, hg, r with
  | [.lst l], hg, r =>
    obtain ⟨ns, e, rfl⟩ := Option.map_eq_some_iff.mp hg
    obtain ⟨x, rfl, rr⟩ := r.one
    have r := rr
    obtain ⟨p, rfl, hp⟩ := bls_arg w r e
    exact ⟨p, ns, rfl, hp, h.nowB w⟩
/-! max, min of a list -/
def maxL : List Int → Option Int
  | [] => none
  | x :: r => some (r.foldl (fun a b => if b > a then b else a) x)
def minL : List Int → Option Int
  | [] => none
  | x :: r => some (r.foldl (fun a b => if b < a then b else a) x)
theorem foldmax : ∀ (r : List Int) (x : Int), (r.foldl (fun a b => if b > a then b else a) x ∈ x :: r) ∧ ∀ y ∈ x :: r, y ≤ r.foldl (fun a b => if b > a then b else a) x
  | [], x => ⟨List.mem_cons_self, fun y h => by rw [List.mem_singleton.mp h]; exact Int.le_refl _⟩
  | b :: r, x => by
    obtain ⟨h1, h2⟩ := foldmax r (if b > x then b else x)
    rw [List.foldl_cons]
    refine ⟨?_, fun y hy => ?_⟩
    · rcases List.mem_cons.mp h1 with e | e
      · rw [e]; split
        · exact List.mem_cons_of_mem _ List.mem_cons_self
        · exact List.mem_cons_self
      · exact List.mem_cons_of_mem _ (List.mem_cons_of_mem _ e)
    · have h3 := h2 _ List.mem_cons_self
      rcases List.mem_cons.mp hy with rfl | hy
      · refine Int.le_trans ?_ h3; split <;> omega
      · rcases List.mem_cons.mp hy with rfl | hy
        · refine Int.le_trans ?_ h3; split <;> omega
        · exact h2 y (List.mem_cons_of_mem _ hy)
theorem foldmin : ∀ (r : List Int) (x : Int), (r.foldl (fun a b => if b < a then b else a) x ∈ x :: r) ∧ ∀ y ∈ x :: r, r.foldl (fun a b => if b < a then b else a) x ≤ y
  | [], x => ⟨List.mem_cons_self, fun y h => by rw [List.mem_singleton.mp h]; exact Int.le_refl _⟩
  | b :: r, x => by
    obtain ⟨h1, h2⟩ := foldmin r (if b < x then b else x)
    rw [List.foldl_cons]
    refine ⟨?_, fun y hy => ?_⟩
    · rcases List.mem_cons.mp h1 with e | e
      · rw [e]; split
        · exact List.mem_cons_of_mem _ List.mem_cons_self
        · exact List.mem_cons_self
      · exact List.mem_cons_of_mem _ (List.mem_cons_of_mem _ e)
    · have h3 := h2 _ List.mem_cons_self
      rcases List.mem_cons.mp hy with rfl | hy
      · refine Int.le_trans h3 ?_; split <;> omega
      · rcases List.mem_cons.mp hy with rfl | hy
        · refine Int.le_trans h3 ?_; split <;> omega
        · exact h2 y (List.mem_cons_of_mem _ hy)
theorem maxL_iff {ns : List Int} {k : Int} (e : maxL ns = some k) {j : Int} (h1 : j ∈ ns) (h2 : ∀ y, y ∈ ns → y ≤ j) : j = k := by
  cases ns with
  | nil => cases e
  | cons x r =>
    cases e
    obtain ⟨q1, q2⟩ := foldmax r x
    exact Int.le_antisymm (q2 j h1) (h2 _ q1)
theorem minL_iff {ns : List Int} {k : Int} (e : minL ns = some k) {j : Int} (h1 : j ∈ ns) (h2 : ∀ y, y ∈ ns → j ≤ y) : j = k := by
  cases ns with
  | nil => cases e
  | cons x r =>
    cases e
    obtain ⟨q1, q2⟩ := foldmin r x
    exact Int.le_antisymm (h2 _ q1) (q2 j h1)
theorem maxL_pos {ns : List Int} {k : Int} (e : maxL ns = some k) : 0 < ns.length := by
  cases ns with
  | nil => cases e
  | cons x r => simp
theorem minL_pos {ns : List Int} {k : Int} (e : minL ns = some k) : 0 < ns.length := by
  cases ns with
  | nil => cases e
  | cons x r => simp
def gMax1 : List D → Option D
  | [.lst l] => (intsOf l).bind fun ns => (maxL ns).map D.int
  | _ => none
def gMin1 : List D → Option D
  | [.lst l] => (intsOf l).bind fun ns => (minL ns).map D.int
  | _ => none
theorem gMax1_ok : CallG (rMax c.K) m c gMax1 := by
  intro Z H φ xs ds z W σ Q w r hg h
  match ds, hg, r with
  | [.lst l], hg, r =>
    obtain ⟨ns, e, hg⟩ := Option.bind_eq_some_iff.mp hg
    obtain ⟨k, ek, rfl⟩ := Option.map_eq_some_iff.mp hg
    obtain ⟨x, rfl, rr⟩ := r.one
    have r := rr
    obtain ⟨p, rfl, hp⟩ := ints_arg w r e
    exact ⟨p, ns, rfl, hp, maxL_pos ek, fun j h1 h2 => by rw [maxL_iff ek h1 h2]; exact h.nowI w⟩
theorem gMin1_ok : CallG (rMin c.K) m c gMin1 := by
  intro Z H φ xs ds z W σ Q w r hg h
  match ds, hg, r with
  | [.lst l], hg, r =>
    obtain ⟨ns, e, hg⟩ := Option.bind_eq_some_iff.mp hg
    obtain ⟨k, ek, rfl⟩ := Option.map_eq_some_iff.mp hg
    obtain ⟨x, rfl, rr⟩ := r.one
    have r := rr
    obtain ⟨p, rfl, hp⟩ := ints_arg w r e
    exact ⟨p, ns, rfl, hp, minL_pos ek, fun j h1 h2 => by rw [minL_iff ek h1 h2]; exact h.nowI w⟩
/-! isinstance with a built-in class -/
def D.tn : D → Option String
  | .non => some "NoneType"
  | .bl _ => some "bool"
  | .int _ => some "int"
  | .str _ => some "str"
  | .lst _ => some "list"
  | .tup _ => some "tuple"
  | .dk _ => some "dict"
  | .dt _ => some "dict"
  | _ => none
def tyB (t T : String) : Bool := (t == T) || (t == "bool" && T == "int")
def gIsi (T : String) (d : D) : Option D := d.tn.map fun t => .bl (tyB t T)
/-- what isinstance says of a class's name -/
def IsiOk (T : String) : Prop := ∀ t ∈ ["NoneType", "bool", "int", "str", "list", "tuple", "dict"], kitB t T = some (tyB t T)
theorem tyX_ok {Z H : Hp} {φ : Fd} {x : V} {d : D} {t : String} (w : Wf c.K c.f Z H φ) (r : Res .p c.K c.f H Z H x d) (e : d.tn = some t) : TyX c.K H x (.type t) ∧ t ∈ ["NoneType", "bool", "int", "str", "list", "tuple", "dict"] := by
  cases d with
  | non => cases e; rw [r.non]; exact ⟨.base .non, by decide⟩
  | bl b => cases e; rw [r.bl]; exact ⟨.base (.bl _), by decide⟩
  | int b => cases e; rw [r.int]; exact ⟨.base (.int _), by decide⟩
  | str b => cases e; rw [r.str]; exact ⟨.base (.str _), by decide⟩
  | lst l => cases e; obtain ⟨p, vs, rfl, hp, q⟩ := r.lst w; exact ⟨.base (.lst hp), by decide⟩
  | tup l =>
    cases e
    obtain ⟨p, vs, rfl, hp, q⟩ := r.tup
    refine ⟨?_, by decide⟩
    rcases w.sqT hp with (h | ⟨o, h⟩) | ⟨o, its, n, h1, h2, _⟩
    · exact .base (.tup h)
    · exact .fTuple h
    · exact .kTuple h1 h2
  | dk l => cases e; obtain ⟨p, vs, rfl, hp, q⟩ := r.dk w; exact ⟨.base (.dK hp), by decide⟩
  | dt l => cases e; obtain ⟨p, vs, rfl, hp, q⟩ := r.dt w; exact ⟨.base (.dT hp), by decide⟩
  | feed => cases e
  | exn _ _ => cases e
theorem x_isi {T : String} {x2 : Str} {p p2 : Pos} (hT : IsiOk T) (hK : X.K = c.K) (ha : EX X c own .p W a A) (hm : X.mg "isinstance" = none) (hm2 : X.mg x2 = none) (hv2 : bootBuiltins x2 = some (.type T)) (hg2 : Gl X x2 := by rfl) (hn2 : x2 ≠ "__name__" := by decide) (hd2 : (x2 == ("__debug__" : Str)) = false := by decide)
    (hg : Gl X "isinstance" := by rfl)
    (he : starEach (a :: [.Name x2 p2]) X.env = (false, eval a X.env) :: starEach [.Name x2 p2] X.env := by rfl) (hpl : (backTo pos (starEach [.Name x2 p2] X.env)).any (·.1) = false := by rfl) (he2 : starEach [Expr.Name x2 p2] X.env = (false, eval (.Name x2 p2) X.env) :: starEach [] X.env := by rfl) :
    EX X c own m W (.Call (.Name "isinstance" p) [a, .Name x2 p2] [] pos) (eUn (gIsi T) A) := by
  refine PE.weak (pe_callB call_isi hg hm (by decide +kernel) (pa_cons ha (pa_cons (pe_bltn (v := .ty T) hg2 hm2 hv2 rfl hn2 hd2) pa_nil he2) he) (by decide) (by decide) he hpl) ?_
  rintro σ H Q ⟨Z, ρ, φ, R, h⟩
  refine ⟨Z, ρ, φ, R, Post.bindE h fun d φ1 v Z1 H1 e1 w1 r1 h1 => ?_⟩
  obtain ⟨z, hz, h4⟩ := ofO_ok (E := fun o => Post c m W o σ Z1 H1 Q) h1 fun z => z
  obtain ⟨t, ht, rfl⟩ := Option.map_eq_some_iff.mp hz
  obtain ⟨ty, mem⟩ := tyX_ok w1 r1 ht
  exact ⟨v, .ty T, .type t, .type T, _, rfl, .ty T, by rw [hK]; exact ty, kit_ty (hT t mem), h4.nowB w1⟩
theorem isi_int : IsiOk "int" := by unfold IsiOk; decide +kernel
theorem isi_bool : IsiOk "bool" := by unfold IsiOk; decide +kernel
theorem isi_list : IsiOk "list" := by unfold IsiOk; decide +kernel
theorem isi_tuple : IsiOk "tuple" := by unfold IsiOk; decide +kernel
theorem isi_str : IsiOk "str" := by unfold IsiOk; decide +kernel
end
end Pf

set_option Elab.async false
set_option linter.all false
set_option maxRecDepth 100000
set_option maxHeartbeats 4000000
namespace Pf
open PySem PySem.Spec PyProof.Rows L2

/-! ## calls of the text's own defs -/
/-- how arguments come in: true: to be looked at; false: frozen -/
abbrev Wm (q : Bool) : Md := if q = true then .p else .s
def RArgs (K : PySem.W.Frag) (f : Addr) (Z H : Hp) : List Bool → List V → List D → Prop
  | [], [], [] => True
  | b :: bs, v :: vs, d :: ds => Res (Wm b) K f H Z H v d ∧ RArgs K f Z H bs vs ds
  | _, _, _ => False
theorem RArgs.lens {K : PySem.W.Frag} {f : Addr} {Z H : Hp} : ∀ {bs : List Bool} {vs : List V} {ds : List D}, RArgs K f Z H bs vs ds → vs.length = bs.length ∧ ds.length = bs.length
  | [], [], [], _ => ⟨rfl, rfl⟩
  | b :: bs, v :: vs, d :: ds, h => by
    obtain ⟨h1, h2⟩ := RArgs.lens h.2
    exact ⟨by rw [List.length_cons, List.length_cons, h1], by rw [List.length_cons, List.length_cons, h2]⟩
theorem RArgs.at_ {K : PySem.W.Frag} {f : Addr} {Z H : Hp} : ∀ {bs : List Bool} {vs : List V} {ds : List D} {i : Nat} {d : D}, RArgs K f Z H bs vs ds → ds[i]? = some d → ∃ b v, bs[i]? = some b ∧ vs[i]? = some v ∧ Res (Wm b) K f H Z H v d
  | [], [], [], i, d, _, e => by simp at e
  | b :: bs, v :: vs, d :: ds, 0, x, h, e => by simp at e; subst e; exact ⟨b, v, rfl, rfl, h.1⟩
  | b :: bs, v :: vs, d :: ds, i + 1, x, h, e => by
    obtain ⟨b', v', h1, h2, h3⟩ := RArgs.at_ (i := i) (d := x) h.2 (by simpa using e)
    exact ⟨b', v', by simpa using h1, by simpa using h2, h3⟩
theorem Res.wm {K : PySem.W.Frag} {f : Addr} {H0 Z H Z' H' H1 : Hp} {b : Bool} {v : V} {d : D} (e : Ext f Z H Z' H') (r : Res (Wm b) K f H0 Z H v d) : Res (Wm b) K f H1 Z' H' v d := by
  cases b with
  | false => exact Rep.mono e.z r
  | true => exact Res.pmono r e
theorem RArgs.mono {K : PySem.W.Frag} {f : Addr} {Z H Z' H' : Hp} (e : Ext f Z H Z' H') : ∀ {bs : List Bool} {vs : List V} {ds : List D}, RArgs K f Z H bs vs ds → RArgs K f Z' H' bs vs ds
  | [], [], [], _ => trivial
  | _ :: _, _ :: _, _ :: _, h => ⟨h.1.wm e, RArgs.mono e h.2⟩
def PostM (c : Ct) (pm : List Bool) (W : WX) (o : O (List D)) (σ : L2.St) (Z H : Hp) (Q : List V → Hp → Prop) : Prop :=
  match o with
  | .ok d φ => ∀ v Z' H', Ext c.f Z H Z' H' → Wf c.K c.f Z' H' φ → RArgs c.K c.f Z' H' pm v d → Q v H'
  | .ex x l φ => ∀ cls dx Z' H', Ext c.f Z H Z' H' → Wf c.K c.f Z' H' φ → XRep c Z' H' x l cls dx → W cls dx σ H'
  | .bad => False
def tM (c : Ct) (own : List Ms) (pm : List Bool) (W : WX) (A : SA) : TA := fun σ H Q => ∃ Z ρ φ, Rl c own Z ρ φ σ H ∧ PostM c pm W (A ρ φ) σ Z H Q
abbrev AXM (X : Cx) (c : Ct) (own : List Ms) (pm : List Bool) (W : WX) (es : List Expr) (A : SA) : Prop := PA X es (tM c own pm W A)
section
variable {X : Cx} {c : Ct} {own : List Ms} {W : WX} {σ : L2.St} {Z H Z1 H1 : Hp} {pm : List Bool}
theorem PostM.shift {o : O (List D)} {Q : List V → Hp → Prop} (e : Ext c.f Z H Z1 H1) (h : PostM c pm W o σ Z H Q) : PostM c pm W o σ Z1 H1 Q := by
  cases o with
  | ok d φ => exact fun v Z' H' e2 => h v Z' H' (e.trans e2)
  | ex x l φ => exact fun cls dx Z' H' e2 => h cls dx Z' H' (e.trans e2)
  | bad => exact h
theorem Post.bindM {m1 : Md} {x : O D} {k : D → Fd → O (List D)} {Q : List V → Hp → Prop} {R : VK} (h : PostM c pm W (x.bind k) σ Z H Q)
    (hr : ∀ d φ1 v Z1 H1, Ext c.f Z H Z1 H1 → Wf c.K c.f Z1 H1 φ1 → Res m1 c.K c.f H Z1 H1 v d → PostM c pm W (k d φ1) σ Z1 H1 Q → R v H1) : Post c m1 W x σ Z H R :=
  Post.bind (E := fun o Z H => PostM c pm W o σ Z H Q) (fun _ _ _ e h => h.shift e) (fun _ _ _ h => h) (fun h => h) h hr
theorem PostM.bindM {pm1 : List Bool} {x : O (List D)} {k : List D → Fd → O (List D)} {Q R : List V → Hp → Prop} (h : PostM c pm W (x.bind k) σ Z H Q)
    (hr : ∀ d φ1 v Z1 H1, Ext c.f Z H Z1 H1 → Wf c.K c.f Z1 H1 φ1 → RArgs c.K c.f Z1 H1 pm1 v d → PostM c pm W (k d φ1) σ Z1 H1 Q → R v H1) : PostM c pm1 W x σ Z H R := by
  cases x with
  | ok d φ => exact fun v Z' H' e w r => hr d φ v Z' H' e w r (PostM.shift e h)
  | ex y l φ => exact h
  | bad => exact h
theorem PostM.bindE {m : Md} {pm1 : List Bool} {x : O (List D)} {k : List D → Fd → O D} {Q : VK} {R : List V → Hp → Prop} (h : Post c m W (x.bind k) σ Z H Q)
    (hr : ∀ d φ1 v Z1 H1, Ext c.f Z H Z1 H1 → Wf c.K c.f Z1 H1 φ1 → RArgs c.K c.f Z1 H1 pm1 v d → Post c m W (k d φ1) σ Z1 H1 Q → R v H1) : PostM c pm1 W x σ Z H R := by
  cases x with
  | ok d φ => exact fun v Z' H' e w r => hr d φ v Z' H' e w r (Post.shift e h)
  | ex y l φ => exact h
  | bad => exact h
theorem m_nil : AXM X c own [] W [] aNil := PA.weak pa_nil fun σ H Q ⟨Z, ρ, φ, R, h⟩ => h [] Z H .refl R.wf trivial
theorem m_cons {b : Bool} {e : Expr} {es : List Expr} {A : SX} {B : SA} (ha : EX X c own (Wm b) W e A) (hb : AXM X c own pm W es B) (hs : starEach (e :: es) X.env = (false, eval e X.env) :: starEach es X.env := by rfl) : AXM X c own (b :: pm) W (e :: es) (aCons A B) := by
  refine PA.weak (pa_cons ha hb hs) ?_
  rintro σ H Q ⟨Z, ρ, φ, R, h⟩
  refine ⟨Z, ρ, φ, R, Post.bindM h fun d φ1 x Z1 H1 e1 w1 r1 h1 => ?_⟩
  refine ⟨Z1, ρ, φ1, R.more e1 w1, PostM.bindM h1 fun ds φ2 xs Z2 H2 e2 w2 r2 h2 => ?_⟩
  exact h2 (x :: xs) Z2 H2 .refl w2 ⟨r1.wm e2, r2⟩
theorem m_s {e : Expr} {es : List Expr} {A : SX} {B : SA} (ha : EX X c own .s W e A) (hb : AXM X c own pm W es B) (hs : starEach (e :: es) X.env = (false, eval e X.env) :: starEach es X.env := by rfl) : AXM X c own (false :: pm) W (e :: es) (aCons A B) := m_cons (b := false) ha hb hs
theorem m_p {e : Expr} {es : List Expr} {A : SX} {B : SA} (ha : EX X c own .p W e A) (hb : AXM X c own pm W es B) (hs : starEach (e :: es) X.env = (false, eval e X.env) :: starEach es X.env := by rfl) : AXM X c own (true :: pm) W (e :: es) (aCons A B) := m_cons (b := true) ha hb hs
end
/-- a def's promise by what it does; pm: how its arguments come in -/
def spF (cls : Str → Option (Addr × List Str)) (K : PySem.W.Frag) (pm : List Bool) (m : Md) (F : Fn) : Sp := fun vs H Q E => ∃ (f : Addr) (Z : Hp) (ds : List D) (φ : Fd), Wf K f Z H φ ∧ RArgs K f Z H pm vs ds ∧
  match F ds φ with
  | .ok d φ' => ∀ v Z' H', Ext f Z H Z' H' → Wf K f Z' H' φ' → Res m K f H Z' H' v d → Q v H'
  | .ex x l φ' => ∀ cl dx Z' H', Ext f Z H Z' H' → Wf K f Z' H' φ' → XRep ⟨K, f, Z, H, cls, [], []⟩ Z' H' x l cl dx → E cl dx H'
  | .bad => False
/-- the def x of the text, callable at level k -/
structure Cal (P : Program) (w : World) (K : PySem.W.Frag) (mg : Str → Option Value) (base : Heap) (cls : Str → Option (Addr × List Str)) (x : Str) (k : Nat) (pm : List Bool) (m : Md) (F : Fn) : Prop where
  ex : ∃ (f : Addr) (fd : FuncData) (ps : List Str), mg x = some (.ref f) ∧ PySem.W.keepIn K (.ref f) = true ∧ Binds K fd ps [] ∧ FnOk P w K mg base (L2.CX P w) k f fd ps (spF cls K pm m F)
theorem Cal.mono {P : Program} {w : World} {K : PySem.W.Frag} {mg : Str → Option Value} {base : Heap} {cls : Str → Option (Addr × List Str)} {x : Str} {k j : Nat} {pm : List Bool} {m : Md} {F : Fn} (C : Cal P w K mg base cls x k pm m F) (h : k ≤ j) : Cal P w K mg base cls x j pm m F := by
  obtain ⟨f, fd, ps, h1, h2, h3, h4⟩ := C.ex
  exact ⟨f, fd, ps, h1, h2, h3, h4.mono h⟩
def eCall (F : Fn) (A : SA) : SX := fun ρ φ => (A ρ φ).bind F
def eCall0 (F : Fn) : SX := fun _ φ => match F [] φ with
  | .ok d φ' => .ok d φ'
  | _ => .bad
section
variable {X : Cx} {c : Ct} {own : List Ms} {m : Md} {W : WX} {pos p : Pos} {x : Str} {k : Nat} {pm : List Bool} {F : Fn}
theorem x_call {e : Expr} {es : List Expr} {A : SA} (hK : X.K = c.K) (C : Cal X.prog X.w X.K X.mg X.base c.cls x k pm m F) (hr : Room k X.A) (tk : Takes X W) (ha : AXM X c own pm W (e :: es) A)
    (hg : Gl X x := by rfl) (hdb : (x == ("__debug__" : Str)) = false := by decide)
    (he : starEach (e :: es) X.env = (false, eval e X.env) :: starEach es X.env := by rfl) (hpl : (backTo pos (starEach es X.env)).any (·.1) = false := by rfl) : EX X c own m W (.Call (.Name x p) (e :: es) [] pos) (eCall F A) := by
  obtain ⟨f, fd, ps, h1, h2, h3, h4⟩ := C.ex
  refine PE.weak (pe_callS h4 hr hg h1 h2 h3 (fun σ => passAt tk σ) ha hdb he hpl) ?_
  rintro σ H Q ⟨Z, ρ, φ, R, h⟩
  refine ⟨Z, ρ, φ, R, PostM.bindE h fun ds φ1 xs Z1 H1 e1 w1 r1 h2 => ?_⟩
  refine ⟨c.f, Z1, ds, φ1, by rw [hK]; exact w1, by rw [hK]; exact r1, ?_⟩
  rw [hK]
  cases hF : F ds φ1 with
  | ok d φ2 => rw [hF] at h2; exact h2
  | ex y l φ2 => rw [hF] at h2; exact h2
  | bad => rw [hF] at h2; exact h2.elim
theorem x_call0 (hK : X.K = c.K) (C : Cal X.prog X.w X.K X.mg X.base c.cls x k [] m F) (hr : Room k X.A) (hg : Gl X x := by rfl) (hdb : (x == ("__debug__" : Str)) = false := by decide) : EX X c own m W (.Call (.Name x p) [] [] pos) (eCall0 F) := by
  obtain ⟨f, fd, ps, h1, h2, h3, h4⟩ := C.ex
  refine PE.weak (pe_call0 h4 hr hg h1 h2 h3 .nil passL hdb) ?_
  rintro σ H Q ⟨Z, ρ, φ, R, h⟩
  show spF c.cls X.K [] m F [] H Q E0
  refine ⟨c.f, Z, [], φ, by rw [hK]; exact R.wf, trivial, ?_⟩
  rw [hK]
  unfold eCall0 at h
  cases hF : F [] φ with
  | ok d φ2 => rw [hF] at h; exact h
  | ex y l φ2 => rw [hF] at h; exact h.elim
  | bad => rw [hF] at h; exact h.elim
end

/-! ## statements -/
inductive R where
  | nx (ρ : En) (φ : Fd) | rt (d : D) (φ : Fd) | bk (ρ : En) (φ : Fd) | ct (ρ : En) (φ : Fd) | ex (x : Str) (l : List D) (ρ : En) (φ : Fd) | bad
abbrev SS := En → Fd → R
/-- how a statement's own-list fares: lp: at break and continue; on: behind it. ox: which own-lists an exception may find -/
structure Ow where
  m : Md
  W : WX
  ox : List Ms → Prop
  lp : List Ms
def Sub (Z Z' : Hp) : Prop := ∀ a o, Z a = some o → Z' a = some o
theorem Sub.refl {Z : Hp} : Sub Z Z := fun _ _ h => h
theorem Sub.trans {Z Z1 Z2 : Hp} (a : Sub Z Z1) (b : Sub Z1 Z2) : Sub Z Z2 := fun x o h => b x o (a x o h)
def PostS (c : Ct) (w : Ow) (on : List Ms) (r : R) (Dn : Ends) (Z0 : Hp) : Prop :=
  match r with
  | .nx ρ φ => ∀ σ Z H, Sub Z0 Z → Rl c on Z ρ φ σ H → Dn.nx σ H
  | .rt d φ => ∀ v Z H, Ext c.f c.Z c.H Z H → Wf c.K c.f Z H φ → Res w.m c.K c.f c.H Z H v d → Dn.rt v H
  | .bk ρ φ => ∀ σ Z H, Sub Z0 Z → Rl c w.lp Z ρ φ σ H → Dn.bk σ H
  | .ct ρ φ => ∀ σ Z H, Sub Z0 Z → Rl c w.lp Z ρ φ σ H → Dn.ct σ H
  | .ex x l ρ φ => ∀ cls dx σ Z H ow, w.ox ow → Rl c ow Z ρ φ σ H → XRep c Z H x l cls dx → w.W cls dx σ H
  | .bad => False
def tS (c : Ct) (w : Ow) (own on : List Ms) (B : SS) : TS := fun Dn σ H => ∃ Z ρ φ, Rl c own Z ρ φ σ H ∧ PostS c w on (B ρ φ) Dn Z
theorem PostS.shift {c : Ct} {w : Ow} {on : List Ms} {r : R} {Dn : Ends} {Z0 Z1 : Hp} (h : PostS c w on r Dn Z0) (k : Sub Z0 Z1) : PostS c w on r Dn Z1 := by
  cases r with
  | nx ρ φ => exact fun σ Z H q => h σ Z H (k.trans q)
  | rt d φ => exact h
  | bk ρ φ => exact fun σ Z H q => h σ Z H (k.trans q)
  | ct ρ φ => exact fun σ Z H q => h σ Z H (k.trans q)
  | ex x l ρ φ => exact h
  | bad => exact h
abbrev SJ (X : Cx) (c : Ct) (w : Ow) (own on : List Ms) (st : Stmt) (B : SS) : Prop := PS X st (tS c w own on B)
abbrev SJs (X : Cx) (c : Ct) (w : Ow) (own on : List Ms) (st : List Stmt) (B : SS) : Prop := PSs X st (tS c w own on B)

/-- an outcome of an expression goes on as a statement's -/
def O.toR {α : Type} (o : O α) (ρ : En) (k : α → Fd → R) : R :=
  match o with
  | .ok a φ => k a φ
  | .ex x l φ => .ex x l ρ φ
  | .bad => .bad
section
variable {c : Ct} {w : Ow} {own on : List Ms} {m : Md} {Z H : Hp} {ρ : En} {φ : Fd} {σ : L2.St} {Dn : Ends}
theorem Post.toS {o : O D} {k : D → Fd → R} {Q : VK} (hx : w.ox own) (R0 : Rl c own Z ρ φ σ H) (h : PostS c w on (o.toR ρ k) Dn Z)
    (hk : ∀ d φ' v Z' H', Ext c.f Z H Z' H' → Wf c.K c.f Z' H' φ' → Res m c.K c.f H Z' H' v d → PostS c w on (k d φ') Dn Z' → Q v H') : Post c m w.W o σ Z H Q := by
  cases o with
  | ok d φ' => exact fun v Z' H' e w' r => hk d φ' v Z' H' e w' r (h.shift e.z)
  | ex x l φ' => exact fun cls dx Z' H' e w' r => h cls dx σ Z' H' own hx (R0.more e w') r
  | bad => exact h
theorem PostB.toS {o : O Bool} {k : Bool → Fd → R} {Q : Bool → Hp → Prop} (hx : w.ox own) (R0 : Rl c own Z ρ φ σ H) (h : PostS c w on (o.toR ρ k) Dn Z)
    (hk : ∀ d φ' Z' H', Ext c.f Z H Z' H' → Wf c.K c.f Z' H' φ' → PostS c w on (k d φ') Dn Z' → Q d H') : PostB c w.W o σ Z H Q := by
  cases o with
  | ok d φ' => exact fun Z' H' e w' => hk d φ' Z' H' e w' (h.shift e.z)
  | ex x l φ' => exact fun cls dx Z' H' e w' r => h cls dx σ Z' H' own hx (R0.more e w') r
  | bad => exact h
theorem PostA.toS {o : O (List D)} {k : List D → Fd → R} {Q : List V → Hp → Prop} (hx : w.ox own) (R0 : Rl c own Z ρ φ σ H) (h : PostS c w on (o.toR ρ k) Dn Z)
    (hk : ∀ d φ' v Z' H', Ext c.f Z H Z' H' → Wf c.K c.f Z' H' φ' → RAll m c.K c.f H Z' H' v d → PostS c w on (k d φ') Dn Z' → Q v H') : PostA c m w.W o σ Z H Q := by
  cases o with
  | ok d φ' => exact fun v Z' H' e w' r => hk d φ' v Z' H' e w' r (h.shift e.z)
  | ex x l φ' => exact fun cls dx Z' H' e w' r => h cls dx σ Z' H' own hx (R0.more e w') r
  | bad => exact h
end

/-! ### the slots -/
theorem get_set {α : Type} {l : List α} {i j : Nat} {x y : α} (h : (l.set i x)[j]? = some y) : (j = i ∧ y = x) ∨ (j ≠ i ∧ l[j]? = some y) := by
  by_cases e : j = i
  · subst e
    rw [List.getElem?_set] at h
    simp only [if_true] at h
    split at h
    · cases h; exact .inl ⟨rfl, rfl⟩
    · cases h
  · rw [List.getElem?_set_ne (Ne.symm e)] at h
    exact .inr ⟨e, h⟩
section
variable {c : Ct} {own : List Ms} {Z H Z' H' : Hp} {ρ : En} {φ φ' : Fd} {σ : L2.St} {i : Nat} {d : D} {v : V}
theorem Rl.pnSet {m : Ms} {x : Option D} {y : Option V} (R : Rl c own Z ρ φ σ H) (hm : m ≠ .p ∧ m ≠ .r := by decide) : ∀ (j : Nat) (d : D), (ρ.set i x)[j]? = some (some d) → (own.set i m)[j]? = some .p ∨ (own.set i m)[j]? = some .r → c.r0[j]? = some (some d) ∧ (σ.set i y)[j]? = c.s0[j]? := by
  intro j d h1 h2
  have hj : j ≠ i := fun e => by
    subst e
    rcases h2 with h2 | h2 <;> rcases get_set h2 with ⟨_, q⟩ | ⟨q, _⟩ <;> first | exact q rfl | exact hm.1 q.symm | exact hm.2 q.symm
  rw [List.getElem?_set_ne (Ne.symm hj)] at h1 h2 ⊢
  exact R.pn j d h1 h2
theorem Rl.pkSet {m : Ms} {x : Option D} {y : Option V} (R : Rl c own Z ρ φ σ H) (hm : m ≠ .p ∧ m ≠ .r := by decide) : ∀ (j : Nat) (d : D), (ρ.set i x)[j]? = some (some d) → (own.set i m)[j]? = some .p → ∃ v, (σ.set i y)[j]? = some (some v) ∧ Res .p c.K c.f c.H c.Z c.H v d := by
  intro j d h1 h2
  have hj : j ≠ i := fun e => by
    subst e
    rcases get_set h2 with ⟨_, q⟩ | ⟨q, _⟩
    · exact hm.1 q.symm
    · exact q rfl
  rw [List.getElem?_set_ne (Ne.symm hj)] at h1 h2 ⊢
  exact R.pk j d h1 h2
/-- a name is bound to frozen data -/
theorem Rl.setS (R : Rl c own Z ρ φ σ H) (r : Rep c.K c.f Z v d) : Rl c (own.set i .s) Z (ρ.set i (some d)) φ (σ.set i (some v)) H := by
  refine ⟨R.wf, R.ext, by simpa using R.len, fun j e h1 h2 h3 => ?_, fun j e h1 h2 => ?_, fun j k a e e' hjk h1 h2 h3 h4 h5 h6 h7 h8 => ?_, R.pnSet, R.pkSet⟩
  · rcases get_set h1 with ⟨rfl, q⟩ | ⟨hj, q⟩
    · cases q
      have hl : j < σ.length := by
        rw [R.len]
        have := (List.getElem?_eq_some_iff.mp h1).1
        simpa using this
      exact ⟨v, List.getElem?_set_self hl, r⟩
    · rw [List.getElem?_set_ne (Ne.symm hj)]
      exact R.sh j e q (by rwa [List.getElem?_set_ne (Ne.symm hj)] at h2) (by rwa [List.getElem?_set_ne (Ne.symm hj)] at h3)
  · rcases get_set h2 with ⟨rfl, q⟩ | ⟨hj, q⟩
    · cases q
    · rw [List.getElem?_set_ne (Ne.symm hj)] at h1 ⊢
      exact R.ow j e h1 q
  · rcases get_set h1 with ⟨rfl, q⟩ | ⟨hj, q⟩
    · cases q
    · rcases get_set h2 with ⟨rfl, q'⟩ | ⟨hk, q'⟩
      · cases q'
      · rw [List.getElem?_set_ne (Ne.symm hj)] at h3 h7
        rw [List.getElem?_set_ne (Ne.symm hk)] at h5 h8
        exact R.ne j k a e e' hjk q q' h3 h4 h5 h6 h7 h8
/-- a name is bound to something fresh: H0, the heap at the statement's start -/
theorem Rl.setO {Z0 H0 : Hp} {φ0 : Fd} (R0 : Rl c own Z0 ρ φ0 σ H0) (e : Ext c.f Z0 H0 Z H) (w : Wf c.K c.f Z H φ) (hi : i < own.length) (r : Res .o c.K c.f H0 Z H v d) : Rl c (own.set i .o) Z (ρ.set i (some d)) φ (σ.set i (some v)) H := by
  have R := R0.more e w
  have kH : ∀ a, c.H a ≠ none → H0 a ≠ none := R0.ext.k
  -- an own cell of another name is older than the new one
  have apart : ∀ (k : Nat) (a : Addr) (e' : D), k ≠ i → own[k]? = some .o → ρ[k]? = some (some e') → e'.mt = true → σ[k]? = some (some (.ref a)) → d.mt = true → v = .ref a → False := by
    intro k a e' hk h1 h2 h3 h4 hd hv
    obtain ⟨u, hu, ru⟩ := R0.ow k e' h2 h1
    rw [h4] at hu
    cases hu
    unfold Res at ru r
    rw [if_pos h3] at ru
    rw [if_pos hd] at r
    obtain ⟨b, o, eb, _, _, _, hb, _⟩ := ru
    obtain ⟨b', o', eb', hn, _⟩ := r
    rw [hv] at eb'
    cases eb
    cases eb'
    rw [hb] at hn
    cases hn
  refine ⟨w, R.ext, by simpa using R.len, fun j e' h1 h2 h3 => ?_, fun j e' h1 h2 => ?_, fun j k a e' e'' hjk h1 h2 h3 h4 h5 h6 h7 h8 => ?_, R.pnSet, R.pkSet⟩
  · rcases get_set h1 with ⟨rfl, q⟩ | ⟨hj, q⟩
    · exact absurd (List.getElem?_set_self hi) h2
    · rw [List.getElem?_set_ne (Ne.symm hj)]
      exact R.sh j e' q (by rwa [List.getElem?_set_ne (Ne.symm hj)] at h2) (by rwa [List.getElem?_set_ne (Ne.symm hj)] at h3)
  · rcases get_set h1 with ⟨rfl, q⟩ | ⟨hj, q⟩
    · cases q
      have hl : j < σ.length := by
        rw [R.len]
        have := (List.getElem?_eq_some_iff.mp h1).1
        simpa using this
      exact ⟨v, List.getElem?_set_self hl, r.start kH⟩
    · rw [List.getElem?_set_ne (Ne.symm hj)] at h2 ⊢
      exact R.ow j e' q h2
  · rcases get_set h3 with ⟨rfl, q⟩ | ⟨hj, q⟩
    · cases q
      have hk : k ≠ j := Ne.symm hjk
      rw [List.getElem?_set_ne (Ne.symm hk)] at h2 h5 h8
      rcases get_set h7 with ⟨_, q7⟩ | ⟨hh, _⟩
      · cases q7
        exact apart k a e'' hk h2 h5 h6 h8 h4 rfl
      · exact hh rfl
    · rw [List.getElem?_set_ne (Ne.symm hj)] at h1 h7
      rcases get_set h5 with ⟨rfl, q'⟩ | ⟨hk, q'⟩
      · cases q'
        rcases get_set h8 with ⟨_, q8⟩ | ⟨hh, _⟩
        · cases q8
          exact apart j a e' hj h1 q h4 h7 h6 rfl
        · exact hh rfl
      · rw [List.getElem?_set_ne (Ne.symm hk)] at h2 h8
        exact R.ne j k a e' e'' hjk h1 h2 q h4 q' h6 h7 h8
/-- an own cell is written -/
theorem Rl.write (R : Rl c own Z ρ φ σ H) {a : Addr} {d' : D} {o' : HO} (ho : own[i]? = some .o) (hd : ρ[i]? = some (some d)) (hm : d.mt = true) (ha : σ[i]? = some (some (.ref a))) (rc : RepC c.K c.f Z o' d') :
    Rl c own Z (ρ.set i (some d')) φ σ (upd H a o') := by
  obtain ⟨u, hu, ru⟩ := R.ow i d hd ho
  rw [ha] at hu
  cases hu
  unfold Res at ru
  rw [if_pos hm] at ru
  obtain ⟨b, o, eb, hn, hz, hf, hH, _⟩ := ru
  cases eb
  have up : ∀ b u, b ≠ a → H b = some u → upd H a o' b = some u := fun b u hb q => by rw [upd_ne hb]; exact q
  have hm' : d'.mt = true := by cases rc <;> rfl
  have zne : ∀ b u, Z b = some u → b ≠ a := fun b u q e => by rw [e, hz] at q; cases q
  refine ⟨⟨fun b u q => up b u (zne b u q) (R.wf.sub b u q), R.wf.zf, ?_, R.wf.ok⟩, ⟨R.ext.z, fun b u hb q => ?_, fun b q => ?_, R.ext.n, R.ext.d.trans (.same (upd_ne (Ne.symm hf)))⟩, by simpa using R.len, fun j e h1 h2 h3 => ?_, fun j e h1 h2 => ?_, fun j k b e e' hjk h1 h2 h3 h4 h5 h6 h7 h8 => ?_, fun j e h1 h2 => ?_, fun j e h1 h2 => ?_⟩
  · obtain ⟨s, h1, h2⟩ := R.wf.feed
    exact ⟨s, h1, up _ _ (Ne.symm hf) h2⟩
  · exact up b u (fun e => by rw [e, hn] at q; cases q) (R.ext.h b u hb q)
  · by_cases e : b = a
    · rw [e, upd_same]; simp
    · rw [upd_ne e]; exact R.ext.k b q
  · rcases get_set h1 with ⟨rfl, q⟩ | ⟨hj, q⟩
    · exact absurd ho h2
    · exact R.sh j e q h2 h3
  · rcases get_set h1 with ⟨rfl, q⟩ | ⟨hj, q⟩
    · cases q
      refine ⟨_, ha, ?_⟩
      unfold Res
      rw [if_pos hm']
      exact ⟨a, o', rfl, hn, hz, hf, upd_same, rc⟩
    · obtain ⟨u, hu, ru⟩ := R.ow j e q h2
      refine ⟨u, hu, ?_⟩
      by_cases me : e.mt = true
      · unfold Res at ru ⊢
        rw [if_pos me] at ru ⊢
        obtain ⟨b, o2, rfl, h3, h4, h5, h6, h7⟩ := ru
        exact ⟨b, o2, rfl, h3, h4, h5, up b o2 (fun z => R.ne j i b e d hj h2 ho q me hd hm hu (by rw [z]; exact ha)) h6, h7⟩
      · unfold Res at ru ⊢
        rw [if_neg me] at ru ⊢
        exact ru
  · have fx : ∀ (j : Nat) (e : D), (ρ.set i (some d'))[j]? = some (some e) → e.mt = true → ∃ e', ρ[j]? = some (some e') ∧ e'.mt = true := fun j e q me => by
      rcases get_set q with ⟨rfl, q⟩ | ⟨_, q⟩
      · exact ⟨d, hd, hm⟩
      · exact ⟨e, q, me⟩
    obtain ⟨f1, g1, k1⟩ := fx j e h3 h4
    obtain ⟨f2, g2, k2⟩ := fx k e' h5 h6
    exact R.ne j k b f1 f2 hjk h1 h2 g1 k1 g2 k2 h7 h8
  · rcases get_set h1 with ⟨rfl, q⟩ | ⟨hj, q⟩
    · rcases h2 with h2 | h2 <;> rw [ho] at h2 <;> cases h2
    · exact R.pn j e q h2
  · rcases get_set h1 with ⟨rfl, q⟩ | ⟨hj, q⟩
    · rw [ho] at h2; cases h2
    · exact R.pk j e q h2
/-- a name's cell is frozen -/
theorem Rl.frz (R : Rl c own Z ρ φ σ H) (i : Nat) (hp : own[i]? ≠ some .p) : ∃ Z', Sub Z Z' ∧ Rl c (own.set i .s) Z' ρ φ σ H := by
  -- the others, from a frozen part that grew by this cell at most
  have core : ∀ Z' : Hp, Ext c.f Z H Z' H → Wf c.K c.f Z' H φ → (∀ d, ρ[i]? = some (some d) → own[i]? = some .o → ∃ v, σ[i]? = some (some v) ∧ Rep c.K c.f Z' v d) →
      (∀ (j : Nat) (d : D) (a : Addr), j ≠ i → ρ[j]? = some (some d) → own[j]? = some .o → d.mt = true → σ[j]? = some (some (.ref a)) → Z a = none → Z' a = none) → Rl c (own.set i .s) Z' ρ φ σ H := by
    intro Z' e w hs hk
    have ext : Ext c.f c.Z c.H Z' H := ⟨fun b u q => e.z b u (R.ext.z b u q), R.ext.h, R.ext.k, fun b q1 q2 => e.n b (R.ext.k b q1) (R.ext.n b q1 q2), R.ext.d⟩
    refine ⟨w, ext, R.len, fun j d h1 h2 h3 => ?_, fun j d h1 h2 => ?_, fun j k a d d' hjk h1 h2 => ?_, fun j d h1 h2 => ?_, fun j d h1 h2 => ?_⟩
    · by_cases hj : j = i
      · subst hj
        by_cases ho : own[j]? = some .o
        · exact hs d h1 ho
        · obtain ⟨v, h3, h4⟩ := R.sh j d h1 ho hp
          exact ⟨v, h3, h4.mono e.z⟩
      · rw [List.getElem?_set_ne (Ne.symm hj)] at h2 h3
        obtain ⟨v, h3, h4⟩ := R.sh j d h1 h2 h3
        exact ⟨v, h3, h4.mono e.z⟩
    · rcases get_set h2 with ⟨rfl, q⟩ | ⟨hj, q⟩
      · cases q
      · obtain ⟨v, h3, h4⟩ := R.ow j d h1 q
        refine ⟨v, h3, ?_⟩
        by_cases me : d.mt = true
        · unfold Res at h4 ⊢
          rw [if_pos me] at h4 ⊢
          obtain ⟨a, o, rfl, g1, g2, g3, g4, g5⟩ := h4
          exact ⟨a, o, rfl, g1, hk j d a hj h1 q me h3 g2, g3, g4, g5.mono e.z⟩
        · unfold Res at h4 ⊢
          rw [if_neg me] at h4 ⊢
          exact h4.mono e.z
    · have unset : ∀ j, (own.set i Ms.s)[j]? = some Ms.o → own[j]? = some Ms.o := fun j q => by
        rcases get_set q with ⟨rfl, q'⟩ | ⟨_, q'⟩
        · cases q'
        · exact q'
      exact R.ne j k a d d' hjk (unset j h1) (unset k h2)
    · refine R.pn j d h1 ?_
      rcases h2 with h2 | h2 <;> rcases get_set h2 with ⟨_, q⟩ | ⟨_, q⟩ <;> first | exact .inl q | exact .inr q | cases q
    · refine R.pk j d h1 ?_
      rcases get_set h2 with ⟨_, q⟩ | ⟨_, q⟩
      · cases q
      · exact q
  by_cases hh : ∃ d, ρ[i]? = some (some d) ∧ own[i]? = some .o ∧ d.mt = true
  · obtain ⟨d, h1, h2, h3⟩ := hh
    obtain ⟨v, hv, r⟩ := R.ow i d h1 h2
    unfold Res at r
    rw [if_pos h3] at r
    obtain ⟨a, o, rfl, hn, hz, hf, ha, rc⟩ := r
    have up : ∀ b u, Z b = some u → upd Z a o b = some u := fun b u q => by rw [upd_ne (ne_of_none q hz)]; exact q
    refine ⟨upd Z a o, up, ?_⟩
    -- as core, but the entry's own new cells: a is no object of the entry
    have w' : Wf c.K c.f (upd Z a o) H φ := by
      refine ⟨fun b u q => ?_, ?_, ?_, R.wf.ok⟩
      · by_cases hb : b = a
        · subst hb; rw [upd_same] at q; cases q; exact ha
        · rw [upd_ne hb] at q; exact R.wf.sub b u q
      · rw [upd_ne (Ne.symm hf)]; exact R.wf.zf
      · obtain ⟨s, g1, g2⟩ := R.wf.feed
        exact ⟨s, g1.mono up, g2⟩
    have ext : Ext c.f c.Z c.H (upd Z a o) H := ⟨fun b u q => up b u (R.ext.z b u q), R.ext.h, R.ext.k, fun b q1 q2 => by
      have hb : b ≠ a := fun e => q1 (by rw [e]; exact hn)
      rw [upd_ne hb]
      exact R.ext.n b q1 q2, R.ext.d⟩
    refine ⟨w', ext, R.len, fun j e h4 h5 h6 => ?_, fun j e h4 h5 => ?_, fun j k b e e' hjk h4 h5 => ?_, fun j d h1 h2 => ?_, fun j d h1 h2 => ?_⟩
    · by_cases hj : j = i
      · subst hj
        rw [h1] at h4; cases h4
        exact ⟨_, hv, .cel upd_same (rc.mono up)⟩
      · rw [List.getElem?_set_ne (Ne.symm hj)] at h5 h6
        obtain ⟨v, g1, g2⟩ := R.sh j e h4 h5 h6
        exact ⟨v, g1, g2.mono up⟩
    · rcases get_set h5 with ⟨rfl, q⟩ | ⟨hj, q⟩
      · cases q
      · obtain ⟨v, g1, g2⟩ := R.ow j e h4 q
        refine ⟨v, g1, ?_⟩
        by_cases me : e.mt = true
        · unfold Res at g2 ⊢
          rw [if_pos me] at g2 ⊢
          obtain ⟨b, o2, rfl, k1, k2, k3, k4, k5⟩ := g2
          refine ⟨b, o2, rfl, k1, ?_, k3, k4, k5.mono up⟩
          rw [upd_ne (fun z => R.ne j i b e d hj q h2 h4 me h1 h3 g1 (by rw [z]; exact hv))]
          exact k2
        · unfold Res at g2 ⊢
          rw [if_neg me] at g2 ⊢
          exact g2.mono up
    · have unset : ∀ j, (own.set i Ms.s)[j]? = some Ms.o → own[j]? = some Ms.o := fun j q => by
        rcases get_set q with ⟨rfl, q'⟩ | ⟨_, q'⟩
        · cases q'
        · exact q'
      exact R.ne j k b e e' hjk (unset j h4) (unset k h5)
    · refine R.pn j d h1 ?_
      rcases h2 with h2 | h2 <;> rcases get_set h2 with ⟨_, q⟩ | ⟨_, q⟩ <;> first | exact .inl q | exact .inr q | cases q
    · refine R.pk j d h1 ?_
      rcases get_set h2 with ⟨_, q⟩ | ⟨_, q⟩
      · cases q
      · exact q
  · refine ⟨Z, Sub.refl, core Z ⟨fun _ _ q => q, fun _ _ _ q => q, fun _ q => q, fun _ _ q => q, .refl⟩ R.wf (fun d h1 h2 => ?_) fun _ _ _ _ _ _ _ _ q => q⟩
    obtain ⟨v, hv, r⟩ := R.ow i d h1 h2
    have hm : d.mt = false := by
      cases e : d.mt with
      | false => rfl
      | true => exact absurd ⟨d, h1, h2, e⟩ hh
    exact ⟨v, hv, r.flat hm⟩
theorem Rl.frzs (R : Rl c own Z ρ φ σ H) : ∀ is : List Nat, (∀ i ∈ is, own[i]? ≠ some .p) → ∃ Z', Sub Z Z' ∧ Rl c (is.foldr (fun i o => o.set i .s) own) Z' ρ φ σ H
  | [], _ => ⟨Z, Sub.refl, R⟩
  | i :: is, hp => by
    obtain ⟨Z1, k1, R1⟩ := R.frzs is fun j hj => hp j (List.mem_cons_of_mem _ hj)
    have hp1 : (is.foldr (fun i o => o.set i .s) own)[i]? ≠ some .p := by
      have h0 := hp i List.mem_cons_self
      clear k1 R1 hp
      induction is with
      | nil => exact h0
      | cons k is ih =>
        intro q
        rcases get_set (show ((is.foldr (fun i o => o.set i .s) own).set k .s)[i]? = some .p from q) with ⟨_, q⟩ | ⟨_, q⟩
        · cases q
        · exact ih q
    obtain ⟨Z2, k2, R2⟩ := R1.frz i hp1
    exact ⟨Z2, k1.trans k2, R2⟩
end
end Pf

set_option Elab.async false
set_option linter.all false
set_option maxRecDepth 100000
set_option maxHeartbeats 4000000
namespace Pf
open PySem PySem.Spec PyProof.Rows L2

/-! ## targets -/
abbrev Tg := D → En → Option En
/-- the slots outside is stand -/
def Agr (is : List Nat) (σ σ' : L2.St) : Prop := σ'.length = σ.length ∧ ∀ j, j ∉ is → σ'[j]? = σ[j]?
theorem Agr.refl {is : List Nat} {σ : L2.St} : Agr is σ σ := ⟨rfl, fun _ _ => rfl⟩
theorem Agr.trans {is js ks : List Nat} {σ σ1 σ2 : L2.St} (a : Agr is σ σ1) (b : Agr js σ1 σ2) (h1 : ∀ j ∈ is, j ∈ ks) (h2 : ∀ j ∈ js, j ∈ ks) : Agr ks σ σ2 :=
  ⟨b.1.trans a.1, fun j hj => (b.2 j fun z => hj (h2 j z)).trans (a.2 j fun z => hj (h1 j z))⟩
theorem wipe_in {σ : L2.St} : ∀ {vs : List Nat} {i : Nat}, i ∈ vs → i < σ.length → (wipe σ vs)[i]? = some none
  | v :: vs, i, h, hi => by
    show ((wipe σ vs).set v none)[i]? = some none
    by_cases e : i = v
    · subst e
      exact List.getElem?_set_self (by rw [wipe_length]; exact hi)
    · rw [List.getElem?_set_ne (Ne.symm e)]
      exact wipe_in ((List.mem_cons.mp h).resolve_left e) hi
theorem Agr.wipe {is vs : List Nat} {σ σ' : L2.St} (a : Agr is σ σ') (h : ∀ j ∈ is, j ∈ vs) : wipe σ' vs = wipe σ vs := by
  refine List.ext_getElem? fun i => ?_
  by_cases hi : i ∈ vs
  · by_cases hl : i < σ.length
    · rw [wipe_in hi hl, wipe_in hi (by rw [a.1]; exact hl)]
    · rw [List.getElem?_eq_none (by rw [wipe_length, a.1]; omega), List.getElem?_eq_none (by rw [wipe_length]; omega)]
  · rw [wipe_out hi, wipe_out hi]
    exact a.2 i fun z => hi (h i z)
def tT (c : Ct) (own on : List Ms) (is : List Nat) (T : Tg) : TG := fun v σ H Q => ∃ Z ρ φ d ρ', Rl c own Z ρ φ σ H ∧ Rep c.K c.f Z v d ∧ T d ρ = some ρ' ∧ ∀ σ', (∀ Z2 H2 φ2, Sub Z Z2 → Rl c own Z2 ρ φ2 σ H2 → Rl c on Z2 ρ' φ2 σ' H2) → Agr is σ σ' → Q σ' H
abbrev TJ (X : Cx) (c : Ct) (own on : List Ms) (is : List Nat) (tg : Expr) (T : Tg) : Prop := PG X tg (tT c own on is T)
abbrev Tgs := List D → En → Option En
def tTs (c : Ct) (own on : List Ms) (is : List Nat) (T : Tgs) : TGs := fun vs σ H Q => ∃ Z ρ φ ds ρ', Rl c own Z ρ φ σ H ∧ Reps c.K c.f Z vs ds ∧ T ds ρ = some ρ' ∧ ∀ σ', (∀ Z2 H2 φ2, Sub Z Z2 → Rl c own Z2 ρ φ2 σ H2 → Rl c on Z2 ρ' φ2 σ' H2) → Agr is σ σ' → Q σ' H
abbrev TJs (X : Cx) (c : Ct) (own on : List Ms) (is : List Nat) (ts : List Expr) (T : Tgs) : Prop := PGs X ts (tTs c own on is T)
theorem PG.weak {X : Cx} {tg : Expr} {t t' : TG} (h : PG X tg t) (k : ∀ v σ H Q, t' v σ H Q → t v σ H Q) : PG X tg t' := ⟨fun pins s σ H v u Q I r q => h.run pins s σ H v u Q I r (k v σ H Q q)⟩
theorem PGs.weak {X : Cx} {tg : List Expr} {t t' : TGs} (h : PGs X tg t) (k : ∀ v σ H Q, t' v σ H Q → t v σ H Q) : PGs X tg t' := ⟨fun pins s σ H v u Q I r q => h.run pins s σ H v u Q I r (k v σ H Q q)⟩
def tgN (i : Nat) : Tg := fun d ρ => some (ρ.set i (some d))
def tsNil : Tgs := fun ds ρ => match ds with | [] => some ρ | _ => none
def tsCons (T : Tg) (U : Tgs) : Tgs := fun ds ρ => match ds with | d :: r => (T d ρ).bind fun ρ1 => U r ρ1 | [] => none
def tgT (n : Nat) (T : Tgs) : Tg := fun d ρ => match d with
  | .tup ds => if ds.length = n then T ds ρ else none
  | _ => none
section
variable {X : Cx} {c : Ct} {own on o1 : List Ms} {m : Md} {W : WX} {pos : Pos}
theorem g_name (i : Nat) {x : Str} (hN : X.N.Nodup) (hi : X.N[i]? = some x := by rfl) (hx : Loc X.env.scope x := by first | exact Or.inl rfl | exact Or.inr rfl) (hf : X.fn x = true ∨ X.env.scope.names.lookup x = some .local := by first | exact .inl rfl | exact .inr rfl) :
    TJ X c own (own.set i .s) [i] (.Name x pos) (tgN i) := by
  refine PG.weak (pg_name hN hi hx hf) ?_
  rintro v σ H Q ⟨Z, ρ, φ, d, ρ', R0, r, e, q⟩
  cases e
  exact q _ (fun Z2 H2 φ2 k R' => R'.setS (r.mono k)) ⟨by simp, fun j hj => List.getElem?_set_ne (by simpa using Ne.symm (by simpa using hj : j ≠ i))⟩
theorem gs_nil : TJs X c own own [] [] tsNil := by
  refine PGs.weak pgs_nil ?_
  rintro v σ H Q ⟨Z, ρ, φ, ds, ρ', R0, r, e, q⟩
  cases r with
  | nil => cases e; exact ⟨rfl, q σ (fun _ _ _ _ R' => R') .refl⟩
  | cons _ _ => cases e
theorem gs_cons {e : Expr} {es : List Expr} {is js : List Nat} {T : Tg} {U : Tgs} (h1 : TJ X c own o1 is e T) (h2 : TJs X c o1 on js es U)
    (hs : (assignEach (e :: es) X.env).map (·.2) = assign e X.env :: (assignEach es X.env).map (·.2) := by rfl) : TJs X c own on (is ++ js) (e :: es) (tsCons T U) := by
  refine PGs.weak (pgs_cons h1 h2 hs) ?_
  rintro vs σ H Q ⟨Z, ρ, φ, ds, ρ', R0, r, e, q⟩
  cases r with
  | nil => cases e
  | @cons v d vs ds r s =>
    obtain ⟨ρ1, e1, e2⟩ := Option.bind_eq_some_iff.mp e
    exact ⟨v, vs, rfl, Z, ρ, φ, d, ρ1, R0, r, e1, fun σ1 t1 a1 => ⟨Z, ρ1, φ, ds, ρ', t1 Z H φ Sub.refl R0, s, e2, fun σ2 t2 a2 => q σ2 (fun Z2 H2 φ2 k R' => t2 Z2 H2 φ2 k (t1 Z2 H2 φ2 k R')) (a1.trans a2 (fun j h => List.mem_append_left _ h) fun j h => List.mem_append_right _ h)⟩⟩
theorem g_tup {es : List Expr} {k : Nat} {is : List Nat} {n : Nat} {T : Tgs} (hK : X.K = c.K) (hc : X.calm = true) (h : TJs X c own on is es T)
    (hn : (assignEach es X.env).length = n := by rfl) (hst : (assignEach es X.env).findIdx? (·.1) = none := by rfl) : TJ X c own on is (.Tuple es k pos) (tgT n T) := by
  refine PG.weak (pg_tup hc h hn hst) ?_
  rintro v σ H Q ⟨Z, ρ, φ, d, ρ', R0, r, e, q⟩
  cases d with
  | tup ds =>
    obtain ⟨a, vs, rfl, ha, rs⟩ := Res.tup (m := .s) (H0 := H) (H := H) r
    have e' : (if ds.length = n then T ds ρ else none) = some ρ' := e
    by_cases hl : ds.length = n
    · rw [if_pos hl] at e'
      exact ⟨a, vs, rfl, by rw [hK]; exact R0.wf.sqT ha, by rw [rs.length]; exact hl, Z, ρ, φ, ds, ρ', R0, rs, e', q⟩
    · rw [if_neg hl] at e'; cases e'
  | _ => cases e
end

/-! ## what is walked -/
/-- what stays of the state at the start: the frozen part; where q, all the heap but the feed -/
def Kp (q : Bool) (c : Ct) (Z0 H0 Z H : Hp) : Prop := (∀ a o, Z0 a = some o → Z a = some o) ∧ (q = true → ∀ a o, a ≠ c.f → H0 a = some o → H a = some o) ∧ (∀ a o, a ≠ c.f → c.H a = some o → H a = some o)
/-- the iterator J yields ds -/
def Walk (q : Bool) (c : Ct) (J : It) (ds : List D) (Z0 H0 : Hp) : Prop := ∀ (i : Nat) (Z H : Hp) (φ : Fd), Kp q c Z0 H0 Z H → Wf c.K c.f Z H φ →
  (i = ds.length → J.stop i H) ∧ ∀ d, ds[i]? = some d → J.go i H ∧ ∀ x H', J.yld i H x H' → ∃ Z', Ext c.f Z H Z' H' ∧ Wf c.K c.f Z' H' φ ∧ Rep c.K c.f Z' x d
def tI (c : Ct) (own : List Ms) (q : Bool) (W : WX) (A : SA) : TI := fun σ H R => ∃ Z ρ φ, Rl c own Z ρ φ σ H ∧ match A ρ φ with
  | .ok ds φ' => ∀ J Z' H', Ext c.f Z H Z' H' → Wf c.K c.f Z' H' φ' → Walk q c J ds Z' H' → R J H'
  | .ex x l φ' => ∀ cls dx Z' H', Ext c.f Z H Z' H' → Wf c.K c.f Z' H' φ' → XRep c Z' H' x l cls dx → W cls dx σ H'
  | .bad => False
abbrev IJ (X : Cx) (c : Ct) (own : List Ms) (q : Bool) (W : WX) (tg e : Expr) (A : SA) : Prop := PI X tg e (tI c own q W A)
section
variable {X : Cx} {c : Ct} {own : List Ms} {q : Bool} {W : WX} {pos : Pos} {tg : Expr}
/-- a list at the start of the walk, later -/
theorem lst_at {Z0 H0 : Hp} {φ0 : Fd} {v : V} {l : List D} (w0 : Wf c.K c.f Z0 H0 φ0) (r : Res (Wm q) c.K c.f H0 Z0 H0 v (.lst l)) :
    ∃ a vs, v = .ref a ∧ H0 a = some (.lst vs) ∧ Reps c.K c.f Z0 vs l ∧ ∀ Z H φ, Kp q c Z0 H0 Z H → Wf c.K c.f Z H φ → H a = some (.lst vs) := by
  cases q with
  | false =>
    have r' : Rep c.K c.f Z0 v (.lst l) := r
    cases r' with
    | cel e rc =>
      cases rc with
      | lst rs => exact ⟨_, _, rfl, w0.sub _ _ e, rs, fun Z H φ k w => w.sub _ _ (k.1 _ _ e)⟩
  | true =>
    have r' : Res .p c.K c.f H0 Z0 H0 v (.lst l) := r
    obtain ⟨a, vs, rfl, ha, rs⟩ := r'.lst w0
    refine ⟨a, vs, rfl, ha, rs, fun Z H φ k w => k.2.1 rfl a _ ?_ ha⟩
    rintro rfl
    -- the feed is no data
    rcases r' with r' | ⟨b, o, eb, _, hf, _⟩
    · cases r' with
      | cel e _ => rw [w0.zf] at e; cases e
    · cases eb; exact hf rfl
theorem walk_list {Z0 H0 : Hp} {a : Addr} {vs : List V} {l : List D} (rs : Reps c.K c.f Z0 vs l) (h : ∀ Z H φ, Kp q c Z0 H0 Z H → Wf c.K c.f Z H φ → H a = some (.lst vs)) : Walk q c (Itl c.K a) l Z0 H0 := by
  intro i Z H φ k w
  have ha := h Z H φ k w
  refine ⟨fun e => ⟨vs, SqL.of ha, by rw [rs.length, e]; exact Nat.le_refl _⟩, fun d hd => ?_⟩
  obtain ⟨y, hy, ry⟩ := rs.get hd
  refine ⟨⟨vs, y, SqL.of ha, hy⟩, fun x H' hx => ?_⟩
  obtain ⟨rfl, hx⟩ := hx
  have := hx vs (SqL.of ha)
  rw [hy] at this
  cases this
  exact ⟨Z, .refl, w, ry.mono k.1⟩
theorem walk_tup {Z0 H0 : Hp} {a : Addr} {vs : List V} {l : List D} (rs : Reps c.K c.f Z0 vs l) (ha : SqT c.K Z0 a vs) : Walk q c (Itt c.K a) l Z0 H0 := by
  intro i Z H φ k w
  have ha := w.sqT (sqT_mono k.1 ha)
  refine ⟨fun e => ⟨vs, ha, by rw [rs.length, e]; exact Nat.le_refl _⟩, fun d hd => ?_⟩
  obtain ⟨y, hy, ry⟩ := rs.get hd
  refine ⟨⟨vs, y, ha, hy⟩, fun x H' hx => ?_⟩
  obtain ⟨rfl, hx⟩ := hx
  have := hx vs ha
  rw [hy] at this
  cases this
  exact ⟨Z, .refl, w, ry.mono k.1⟩
/-- a list, a tuple, a text -/
theorem pi_seqs {l : Expr} {tl : TE} (hl : PE X l tl) : PI X tg l (fun σ H R => tl σ H fun x H1 => (∃ a, x = .ref a ∧ (∃ xs, SqL X.K H1 a xs) ∧ R (Itl X.K a) H1) ∨ (∃ a, x = .ref a ∧ (∃ xs, SqT X.K H1 a xs) ∧ R (Itt X.K a) H1) ∨ ∃ z, x = .str z ∧ R (Its z) H1) := by
  refine ⟨fun pins s σ H R I h => ?_⟩
  refine thn (hl.run pins s σ H _ I h) fun v s1 ⟨x, H1, I1, r1, q1⟩ => ?_
  rcases q1 with ⟨a, rfl, ⟨xs, hq⟩, q⟩ | ⟨a, rfl, ⟨xs, hq⟩, q⟩ | ⟨z, rfl, q⟩
  · cases r1
    obtain ⟨its, rv, p, hz⟩ := I1.list hq
    refine wpAny_pyIter_list p.isList ⟨s1.heap.objs.size, [s1.heap.objs.size], _, _, H1, rfl, I1.kept (t' := s1.toks) fun b o e => Heap.get?_push_of_some _ e, turn_list a _, ⟨_, Heap.get?_push_size _ rfl, rfl, rfl⟩, fun b hb => ?_, q⟩
    obtain rfl : b = s1.heap.objs.size := by simpa using hb
    exact I1.fpOk (Nat.le_refl _) (I1.hok.fresh (Nat.le_refl _))
  · cases r1
    obtain ⟨its, rv, p, hz⟩ := I1.tuple hq
    refine wpAny_pyIter_tuple (show s1.heap.IsTuple a its.toArray from p) ⟨s1.heap.objs.size, [s1.heap.objs.size], _, _, H1, rfl, I1.kept (t' := s1.toks) fun b o e => Heap.get?_push_of_some _ e, turn_tuple a _, ⟨_, Heap.get?_push_size _ rfl, rfl, rfl⟩, fun b hb => ?_, q⟩
    obtain rfl : b = s1.heap.objs.size := by simpa using hb
    exact I1.fpOk (Nat.le_refl _) (I1.hok.fresh (Nat.le_refl _))
  · obtain ⟨t, rfl⟩ := r1
    cases ha : z.cps.all (· < 128)
    · exact wpAny_pyIter_wide ha (pi_one (tk := s1.toks) I1 _ (turn_str _ z t "str_iterator" (.inr rfl)) ⟨_, Heap.get?_push_size _ rfl, rfl, rfl⟩ q)
    · exact wpAny_pyIter_ascii ha (pi_one (tk := s1.toks) I1 _ (turn_str _ z t "str_ascii_iterator" (.inl rfl)) ⟨_, Heap.get?_push_size _ rfl, rfl, rfl⟩ q)
theorem walk_str {Z0 H0 : Hp} {z : Str} : Walk q c (Its z) (z.cps.toList.map fun k => D.str ⟨#[k]⟩) Z0 H0 := by
  intro i Z H φ k w
  refine ⟨fun e => ?_, fun d hd => ?_⟩
  · have e' : i = z.cps.size := by simpa using e
    rw [e']
    exact Nat.le_refl _
  · rw [List.getElem?_map] at hd
    cases e : z.cps.toList[i]? with
    | none => rw [e] at hd; cases hd
    | some k =>
      rw [e] at hd
      cases hd
      rw [Array.getElem?_toList] at e
      refine ⟨(Array.getElem?_eq_some_iff.mp e).1, fun x H' hx => ?_⟩
      obtain ⟨rfl, k', hk, rfl⟩ := hx
      rw [e] at hk
      cases hk
      exact ⟨Z, .refl, w, .str _⟩
/-- the items of a value that is walked -/
def itD : D → Option (List D)
  | .lst l => some l
  | .tup l => some l
  | .str z => some (z.cps.toList.map fun k => D.str ⟨#[k]⟩)
  | _ => none
def iSeq (A : SX) : SA := fun ρ φ => (A ρ φ).bind fun d φ1 => ofO (itD d) φ1
/-! range -/
def upTo (a : Int) : Nat → List D
  | 0 => []
  | n + 1 => .int a :: upTo (a + 1) n
theorem upTo_len : ∀ (n : Nat) (a : Int), (upTo a n).length = n
  | 0, _ => rfl
  | n + 1, a => by show (upTo (a + 1) n).length + 1 = n + 1; rw [upTo_len n]
theorem upTo_get : ∀ (n : Nat) (a : Int) (i : Nat), i < n → (upTo a n)[i]? = some (.int (a + i))
  | n + 1, a, 0, _ => by show some (D.int a) = _; rw [show a + ((0 : Nat) : Int) = a by omega]
  | n + 1, a, i + 1, h => by
    show (upTo (a + 1) n)[i]? = _
    rw [upTo_get n (a + 1) i (by omega), show a + 1 + (i : Int) = a + ((i + 1 : Nat) : Int) by omega]
theorem walk_range {Z0 H0 : Hp} {a : Int} {n : Nat} : Walk q c (Itr a n) (upTo a n) Z0 H0 := by
  intro i Z H φ k w
  refine ⟨fun e => ?_, fun d hd => ?_⟩
  · rw [upTo_len] at e; rw [e]; exact Nat.le_refl _
  · have hi : i < n := by
      have := (List.getElem?_eq_some_iff.mp hd).1
      rwa [upTo_len] at this
    rw [upTo_get n a i hi] at hd
    cases hd
    exact ⟨hi, fun x H' hx => by obtain ⟨rfl, rfl⟩ := hx; exact ⟨Z, .refl, w, .int _⟩⟩
def small62 (j : Int) : Bool := decide (-4611686018427387904 ≤ j) && decide (j < 4611686018427387904)
theorem small62_ok {j : Int} (h : small62 j = true) : -(2 ^ 62) ≤ j ∧ j < 2 ^ 62 := by
  unfold small62 at h
  simp only [Bool.and_eq_true, decide_eq_true_eq] at h
  omega
def rg1 : List D → Option (List D)
  | [.int j] => if small62 j then some (upTo 0 j.toNat) else none
  | _ => none
def rg2 : List D → Option (List D)
  | [.int i, .int j] => if small62 i && small62 j then some (upTo i (j - i).toNat) else none
  | _ => none
theorem rg1_inv {ds l : List D} (h : rg1 ds = some l) : ∃ j, ds = [.int j] ∧ small62 j = true ∧ l = upTo 0 j.toNat := by
  unfold rg1 at h
  split at h
  · obtain ⟨h1, h2⟩ := ifs h
    exact ⟨_, rfl, h1, h2.symm⟩
  · cases h
theorem rg2_inv {ds l : List D} (h : rg2 ds = some l) : ∃ i j, ds = [.int i, .int j] ∧ small62 i = true ∧ small62 j = true ∧ l = upTo i (j - i).toNat := by
  unfold rg2 at h
  split at h
  · obtain ⟨h1, h2⟩ := ifs h
    rw [Bool.and_eq_true] at h1
    exact ⟨_, _, rfl, h1.1, h1.2, h2.symm⟩
  · cases h
def iRg1 (A : SA) : SA := fun ρ φ => (A ρ φ).bind fun ds φ1 => ofO (rg1 ds) φ1
def iRg2 (A : SA) : SA := fun ρ φ => (A ρ φ).bind fun ds φ1 => ofO (rg2 ds) φ1
/-- the wish of a walk -/
def PostI (c : Ct) (q : Bool) (W : WX) (o : O (List D)) (σ : L2.St) (Z H : Hp) (R0 : It → Hp → Prop) : Prop :=
  match o with
  | .ok ds φ' => ∀ J Z' H', Ext c.f Z H Z' H' → Wf c.K c.f Z' H' φ' → Walk q c J ds Z' H' → R0 J H'
  | .ex x l φ' => ∀ cls dx Z' H', Ext c.f Z H Z' H' → Wf c.K c.f Z' H' φ' → XRep c Z' H' x l cls dx → W cls dx σ H'
  | .bad => False
theorem PostI.shift {Z H Z1 H1 : Hp} {σ : L2.St} {o : O (List D)} {R0 : It → Hp → Prop} (e : Ext c.f Z H Z1 H1) (h : PostI c q W o σ Z H R0) : PostI c q W o σ Z1 H1 R0 := by
  cases o with
  | ok d φ => exact fun J Z' H' e' w => h J Z' H' (e.trans e') w
  | ex x l φ => exact fun cls dx Z' H' e' w r => h cls dx Z' H' (e.trans e') w r
  | bad => exact h
theorem Post.bindI {m : Md} {Z H : Hp} {σ : L2.St} {x : O D} {k : D → Fd → O (List D)} {R0 : It → Hp → Prop} {Q : VK} (h : PostI c q W (x.bind k) σ Z H R0)
    (hr : ∀ d φ1 v Z1 H1, Ext c.f Z H Z1 H1 → Wf c.K c.f Z1 H1 φ1 → Res m c.K c.f H Z1 H1 v d → PostI c q W (k d φ1) σ Z1 H1 R0 → Q v H1) : Post c m W x σ Z H Q :=
  Post.bind (E := fun o Z H => PostI c q W o σ Z H R0) (fun _ _ _ e h => h.shift e) (fun _ _ _ h => h) (fun h => h) h hr
theorem PostA.bindI {m : Md} {Z H : Hp} {σ : L2.St} {x : O (List D)} {k : List D → Fd → O (List D)} {R0 : It → Hp → Prop} {Q : List V → Hp → Prop} (h : PostI c q W (x.bind k) σ Z H R0)
    (hr : ∀ d φ1 v Z1 H1, Ext c.f Z H Z1 H1 → Wf c.K c.f Z1 H1 φ1 → RAll m c.K c.f H Z1 H1 v d → PostI c q W (k d φ1) σ Z1 H1 R0 → Q v H1) : PostA c m W x σ Z H Q :=
  PostA.bind (E := fun o Z H => PostI c q W o σ Z H R0) (fun _ _ _ e h => h.shift e) (fun _ _ _ h => h) (fun h => h) h hr
theorem i_seq (hK : X.K = c.K) {a : Expr} {A : SX} (ha : EX X c own (Wm q) W a A) : IJ X c own q W tg a (iSeq A) := by
  refine PI.weak (pi_seqs ha) ?_
  rintro σ H R0 ⟨Z, ρ, φ, R, h⟩
  refine ⟨Z, ρ, φ, R, Post.bindI (R0 := R0) h fun d φ1 v Z1 H1 e1 w1 r1 h1 => ?_⟩
  have r1' : Res (Wm q) c.K c.f H1 Z1 H1 v d := r1.any (by cases q <;> decide)
  obtain ⟨l0, hl, h2⟩ := ofO_ok (E := fun o => PostI c q W o σ Z1 H1 R0) h1 fun z => z
  cases d with
  | lst l =>
    cases hl
    obtain ⟨a, vs, rfl, ha, rs, hk⟩ := lst_at w1 r1'
    exact .inl ⟨a, rfl, ⟨vs, SqL.of ha⟩, by rw [hK]; exact h2 _ Z1 H1 .refl w1 (walk_list rs hk)⟩
  | tup l =>
    cases hl
    obtain ⟨a, vs, rfl, ha, rs⟩ := r1'.tup
    exact .inr (.inl ⟨a, rfl, ⟨vs, by rw [hK]; exact w1.sqT ha⟩, by rw [hK]; exact h2 _ Z1 H1 .refl w1 (walk_tup rs ha)⟩)
  | str z =>
    cases hl
    obtain rfl := r1'.str
    exact .inr (.inr ⟨z, rfl, h2 _ Z1 H1 .refl w1 walk_str⟩)
  | _ => cases hl
/-- a loop over what stood at the start, to be looked at -/
theorem i_seqP (i : Nat) {x : Str} {p : Pos} (hK : X.K = c.K) (ho : own[i]? = some .p := by rfl) (hN : X.N[i]? = some x := by rfl) (hv : Vis X.env.scope x := by first | exact Or.inl rfl | exact Or.inr (Or.inl rfl) | exact Or.inr (Or.inr rfl)) (hd : (x == ("__debug__" : Str)) = false := by decide)
    (hcd : (x == ("__classdict__" : Str)) = false := by decide) : IJ X c own false W tg (.Name x p) (iSeq (eVar i)) := by
  refine PI.weak (pi_seqs (pe_var hN hv hd hcd)) ?_
  rintro σ H R0 ⟨Z, ρ, φ, R, h⟩
  have h' : PostI c false W (iSeq (eVar i) ρ φ) σ Z H R0 := h
  unfold iSeq at h'
  cases hE : eVar i ρ φ with
  | bad => rw [hE] at h'; exact h'.elim
  | ex y l φ' => unfold eVar at hE; split at hE <;> cases hE
  | ok d φ1 =>
    have hd' : ρ[i]? = some (some d) ∧ φ1 = φ := by
      unfold eVar at hE
      split at hE
      · rename_i d' e'; cases hE; exact ⟨e', rfl⟩
      · cases hE
    obtain ⟨hr, rfl⟩ := hd'
    rw [hE] at h'
    obtain ⟨l0, hl, h2⟩ := ofO_ok (E := fun o => PostI c false W o σ Z H R0) (show PostI c false W (ofO (itD d) φ1) σ Z H R0 from h') fun z => z
    obtain ⟨v, hv, r⟩ := R.pk i d hr ho
    refine ⟨v, hv, ?_⟩
    have r1 : Res .p c.K c.f H Z H v d := (show Res .p c.K c.f H c.Z c.H v d from r).pmono R.ext
    cases d with
    | lst l =>
      cases hl
      rcases r with r | ⟨a, o, rfl, hz, hf, ha, rc⟩
      · cases r with
        | cel e rc =>
          cases rc with
          | lst rs => exact .inl ⟨_, rfl, ⟨_, SqL.of (R.wf.sub _ _ (R.ext.z _ _ e))⟩, by rw [hK]; exact h2 _ Z H .refl R.wf (walk_list (rs.mono R.ext.z) fun Z' H' φ' k w => w.sub _ _ (k.1 _ _ (R.ext.z _ _ e)))⟩
      · cases rc with
        | lst rs => exact .inl ⟨_, rfl, ⟨_, SqL.of (R.ext.h _ _ hf ha)⟩, by rw [hK]; exact h2 _ Z H .refl R.wf (walk_list (rs.mono R.ext.z) fun Z' H' φ' k w => k.2.2 _ _ hf ha)⟩
    | tup l =>
      cases hl
      obtain ⟨a, vs, rfl, ha, rs⟩ := r1.tup
      exact .inr (.inl ⟨a, rfl, ⟨vs, by rw [hK]; exact R.wf.sqT ha⟩, by rw [hK]; exact h2 _ Z H .refl R.wf (walk_tup rs ha)⟩)
    | str z =>
      cases hl
      obtain rfl := r1.str
      exact .inr (.inr ⟨z, rfl, h2 _ Z H .refl R.wf walk_str⟩)
    | _ => cases hl
section
variable {a b : Expr} {A : SA} {p : Pos}
theorem i_range1 (hm : X.mg "range" = none) (ha : AX X c own .p W [a] A) (hg : Gl X "range" := by rfl) (hs : starEach [a] X.env = [(false, eval a X.env)] := by rfl) : IJ X c own q W tg (.Call (.Name "range" p) [a] [] pos) (iRg1 A) := by
  refine PI.weak (pi_range1 hg hm ha hs) ?_
  rintro σ H R0 ⟨Z, ρ, φ, R, h⟩
  refine ⟨Z, ρ, φ, R, PostA.bindI (R0 := R0) h fun ds φ1 xs Z1 H1 e1 w1 r1 h1 => ?_⟩
  obtain ⟨l0, hl, h2⟩ := ofO_ok (E := fun o => PostI c q W o σ Z1 H1 R0) h1 fun z => z
  obtain ⟨j, rfl, hj, rfl⟩ := rg1_inv hl
  obtain ⟨x, rfl, r2⟩ := r1.one
  obtain ⟨g1, g2⟩ := small62_ok hj
  exact ⟨j, by rw [r2.int], g1, g2, h2 _ Z1 H1 .refl w1 walk_range⟩
theorem i_range2 (hm : X.mg "range" = none) (ha : AX X c own .p W [a, b] A) (hg : Gl X "range" := by rfl) (hs : starEach [a, b] X.env = [(false, eval a X.env), (false, eval b X.env)] := by rfl) (hs2 : starEach [b] X.env = [(false, eval b X.env)] := by rfl) :
    IJ X c own q W tg (.Call (.Name "range" p) [a, b] [] pos) (iRg2 A) := by
  refine PI.weak (pi_range2 hg hm ha hs hs2) ?_
  rintro σ H R0 ⟨Z, ρ, φ, R, h⟩
  refine ⟨Z, ρ, φ, R, PostA.bindI (R0 := R0) h fun ds φ1 xs Z1 H1 e1 w1 r1 h1 => ?_⟩
  obtain ⟨l0, hl, h2⟩ := ofO_ok (E := fun o => PostI c q W o σ Z1 H1 R0) h1 fun z => z
  obtain ⟨i, j, rfl, hi, hj, rfl⟩ := rg2_inv hl
  obtain ⟨x, y, rfl, r2, r3⟩ := r1.two
  obtain ⟨g1, g2⟩ := small62_ok hi
  obtain ⟨g3, g4⟩ := small62_ok hj
  exact ⟨i, j, by rw [r2.int, r3.int], ⟨g1, g2, g3, g4⟩, h2 _ Z1 H1 .refl w1 walk_range⟩
/-! enumerate, zip -/
def enumD (i : Nat) : List D → List D
  | [] => []
  | d :: r => .tup [.int (i : Nat), d] :: enumD (i + 1) r
theorem enumD_len : ∀ (l : List D) (i : Nat), (enumD i l).length = l.length
  | [], _ => rfl
  | _ :: r, i => by show (enumD (i + 1) r).length + 1 = r.length + 1; rw [enumD_len r]
theorem enumD_get : ∀ (l : List D) (i k : Nat) (e : D), (enumD i l)[k]? = some e → ∃ d, l[k]? = some d ∧ e = .tup [.int ((i + k : Nat) : Int), d]
  | [], _, _, _, h => by cases h
  | d :: r, i, 0, e, h => by
    have h' : some (D.tup [.int (i : Nat), d]) = some e := h
    cases h'
    exact ⟨d, rfl, rfl⟩
  | d :: r, i, k + 1, e, h => by
    obtain ⟨d', h1, h2⟩ := enumD_get r (i + 1) k e h
    exact ⟨d', h1, by rw [h2, show i + 1 + k = i + (k + 1) by omega]⟩
/-- a new pair at p -/
theorem pair_new {Z H : Hp} {φ : Fd} {p : Addr} {vs : List V} {ds : List D} (w : Wf c.K c.f Z H φ) (r : Reps c.K c.f Z vs ds) (hp : H p = none) :
    ∃ Z', Ext c.f Z H Z' (upd H p (.tup vs)) ∧ Wf c.K c.f Z' (upd H p (.tup vs)) φ ∧ Rep c.K c.f Z' (.ref p) (.tup ds) := by
  have h := Post.newT (c := c) (m := .s) (W := fun _ _ _ _ => False) (σ := []) (Q := fun v H' => v = .ref p → H' = upd H p (.tup vs) → ∃ Z', Ext c.f Z H Z' H' ∧ Wf c.K c.f Z' H' φ ∧ Rep c.K c.f Z' v (.tup ds)) w r
    (fun v Z' H' e w' r' _ _ => ⟨Z', e, w', r'⟩) p hp rfl rfl
  exact h
theorem walk_enum {Z0 H0 : Hp} {a : Addr} {vs : List V} {l : List D} (rs : Reps c.K c.f Z0 vs l) (h : ∀ Z H φ, Kp q c Z0 H0 Z H → Wf c.K c.f Z H φ → H a = some (.lst vs)) : Walk q c (Ite c.K a) (enumD 0 l) Z0 H0 := by
  intro i Z H φ k w
  have ha := h Z H φ k w
  refine ⟨fun e => ⟨vs, SqL.of ha, by rw [rs.length, e, enumD_len]; exact Nat.le_refl _⟩, fun d hd => ?_⟩
  obtain ⟨d', h1, rfl⟩ := enumD_get l 0 i d hd
  obtain ⟨y, hy, ry⟩ := rs.get h1
  refine ⟨⟨vs, y, SqL.of ha, hy⟩, fun x H' hx => ?_⟩
  obtain ⟨T, u, rfl, hT, rfl, hu⟩ := hx
  have := hu vs (SqL.of ha)
  rw [hy] at this
  cases this
  refine pair_new w (.cons ?_ (.cons (ry.mono k.1) .nil)) hT
  rw [Nat.zero_add]
  exact .int _
def zipD : List D → List D → List D
  | d :: r, e :: s => .tup [d, e] :: zipD r s
  | _, _ => []
theorem zipD_len : ∀ (l k : List D), (zipD l k).length = min l.length k.length
  | [], _ => by simp [zipD]
  | _ :: _, [] => by simp [zipD]
  | _ :: r, _ :: s => by show (zipD r s).length + 1 = min (r.length + 1) (s.length + 1); rw [zipD_len r s]; omega
theorem zipD_get : ∀ (l k : List D) (i : Nat) (z : D), (zipD l k)[i]? = some z → ∃ d e, l[i]? = some d ∧ k[i]? = some e ∧ z = .tup [d, e]
  | [], _, _, _, h => by cases h
  | _ :: _, [], _, _, h => by cases h
  | d :: r, e :: s, 0, z, h => by
    have h' : some (D.tup [d, e]) = some z := h
    cases h'
    exact ⟨d, e, rfl, rfl, rfl⟩
  | d :: r, e :: s, i + 1, z, h => zipD_get r s i z h
theorem walk_zip {Z0 H0 : Hp} {a b : Addr} {vs us : List V} {l k : List D} (rs : Reps c.K c.f Z0 vs l) (h : ∀ Z H φ, Kp q c Z0 H0 Z H → Wf c.K c.f Z H φ → H a = some (.lst vs))
    (rs' : Reps c.K c.f Z0 us k) (h' : ∀ Z H φ, Kp q c Z0 H0 Z H → Wf c.K c.f Z H φ → H b = some (.lst us)) : Walk q c (Itz c.K a b) (zipD l k) Z0 H0 := by
  intro i Z H φ kp w
  have ha := h Z H φ kp w
  have hb := h' Z H φ kp w
  refine ⟨fun e => ⟨vs, us, SqL.of ha, SqL.of hb, by rw [rs.length, rs'.length, e, zipD_len]; omega⟩, fun d hd => ?_⟩
  obtain ⟨d1, d2, h1, h2, rfl⟩ := zipD_get l k i d hd
  obtain ⟨y1, hy1, ry1⟩ := rs.get h1
  obtain ⟨y2, hy2, ry2⟩ := rs'.get h2
  refine ⟨⟨vs, us, y1, y2, SqL.of ha, SqL.of hb, hy1, hy2⟩, fun x H' hx => ?_⟩
  obtain ⟨T, u1, u2, rfl, hT, rfl, hu1, hu2⟩ := hx
  have t1 := hu1 vs (SqL.of ha)
  have t2 := hu2 us (SqL.of hb)
  rw [hy1] at t1
  rw [hy2] at t2
  cases t1
  cases t2
  exact pair_new w (.cons (ry1.mono kp.1) (.cons (ry2.mono kp.1) .nil)) hT
def iEn (A : SA) : SA := fun ρ φ => (A ρ φ).bind fun ds φ1 => match ds with | [.lst l] => .ok (enumD 0 l) φ1 | _ => .bad
def iZp (A : SA) : SA := fun ρ φ => (A ρ φ).bind fun ds φ1 => match ds with | [.lst l, .lst k] => .ok (zipD l k) φ1 | _ => .bad
theorem RAll.one' {m : Md} {Z H H0 : Hp} {xs : List V} {d : D} (r : RAll m c.K c.f H0 Z H xs [d]) : ∃ x, xs = [x] ∧ Res m c.K c.f H0 Z H x d := by
  match xs, r with
  | [x], r => exact ⟨x, rfl, r.1⟩
  | _ :: _ :: _, r => exact r.2.elim
theorem RAll.two' {m : Md} {Z H H0 : Hp} {xs : List V} {d e : D} (r : RAll m c.K c.f H0 Z H xs [d, e]) : ∃ x y, xs = [x, y] ∧ Res m c.K c.f H0 Z H x d ∧ Res m c.K c.f H0 Z H y e := by
  match xs, r with
  | [x, y], r => exact ⟨x, y, rfl, r.1, r.2.1⟩
  | [_], r => exact r.2.elim
  | _ :: _ :: _ :: _, r => exact r.2.2.elim
theorem i_enum {elts : List Expr} {kk : Nat} {tpos : Pos} (hK : X.K = c.K) (hm : X.mg "enumerate" = none) (ha : AX X c own (Wm q) W [a] A) (hg : Gl X "enumerate" := by rfl) (hs : starEach [a] X.env = [(false, eval a X.env)] := by rfl) :
    IJ X c own q W (.Tuple elts kk tpos) (.Call (.Name "enumerate" p) [a] [] pos) (iEn A) := by
  refine PI.weak (pi_enum hg hm ha hs) ?_
  rintro σ H R0 ⟨Z, ρ, φ, R, h⟩
  refine ⟨Z, ρ, φ, R, PostA.bindI (R0 := R0) h fun ds φ1 xs Z1 H1 e1 w1 r1 h1 => ?_⟩
  revert r1 h1
  split
  · intro r1 h2
    obtain ⟨x, rfl, r2⟩ := r1.one'
    obtain ⟨a, vs, rfl, ha, rs, hk⟩ := lst_at w1 (r2.any (by cases q <;> decide))
    exact ⟨a, vs, rfl, SqL.of ha, by rw [hK]; exact h2 _ Z1 H1 .refl w1 (walk_enum rs hk)⟩
  · intro _ h2
    exact h2.elim
theorem i_zip {elts : List Expr} {kk : Nat} {tpos : Pos} (hK : X.K = c.K) (hm : X.mg "zip" = none) (ha : AX X c own (Wm q) W [a, b] A) (hg : Gl X "zip" := by rfl)
    (hs : starEach [a, b] X.env = (false, eval a X.env) :: starEach [b] X.env := by rfl) (hpl : (backTo pos (starEach [b] X.env)).any (·.1) = false := by rfl) :
    IJ X c own q W (.Tuple elts kk tpos) (.Call (.Name "zip" p) [a, b] [] pos) (iZp A) := by
  refine PI.weak (pi_zip hg hm ha hs hpl) ?_
  rintro σ H R0 ⟨Z, ρ, φ, R, h⟩
  refine ⟨Z, ρ, φ, R, PostA.bindI (R0 := R0) h fun ds φ1 xs Z1 H1 e1 w1 r1 h1 => ?_⟩
  revert r1 h1
  split
  · intro r1 h2
    obtain ⟨x, y, rfl, r2, r3⟩ := r1.two'
    obtain ⟨a, vs, rfl, ha, rs, hk⟩ := lst_at w1 (r2.any (by cases q <;> decide))
    obtain ⟨b, us, rfl, hb, rs', hk'⟩ := lst_at w1 (r3.any (by cases q <;> decide))
    exact ⟨a, b, vs, us, rfl, SqL.of ha, SqL.of hb, by rw [hK]; exact h2 _ Z1 H1 .refl w1 (walk_zip rs hk rs' hk')⟩
  · intro _ h2
    exact h2.elim
end
end
end Pf

set_option Elab.async false
set_option linter.all false
set_option maxRecDepth 100000
set_option maxHeartbeats 4000000
namespace Pf
open PySem PySem.Spec PyProof.Rows L2

/-! ## comprehensions -/
def wipeE (ρ : En) : List Nat → En
  | [] => ρ
  | v :: vs => (wipeE ρ vs).set v none
/-- what raises is no way out of a comprehension -/
def O.still {α : Type} : O α → O α
  | .ok a φ => .ok a φ
  | _ => .bad
/-- the turns of a comprehension -/
def lcGo (T : Tg) (tst : SB) (elt : SX) (ρ : En) : List D → Fd → O (List D)
  | [], φ => .ok [] φ
  | d :: ds, φ => match T d ρ with
    | none => .bad
    | some ρ1 => match tst ρ1 φ with
      | .ok true φ1 => match elt ρ1 φ1 with
        | .ok y φ2 => match lcGo T tst elt ρ ds φ2 with
          | .ok ys φ3 => .ok (y :: ys) φ3
          | _ => .bad
        | _ => .bad
      | .ok false φ1 => lcGo T tst elt ρ ds φ1
      | _ => .bad
def eLc (I : SA) (T : Tg) (tst : SB) (elt : SX) (vs : List Nat) : SX := fun ρ φ => (I ρ φ).bind fun ds φ1 => match lcGo T tst elt (wipeE ρ vs) ds φ1 with
  | .ok ys φ2 => if ys.length ≤ sizeLine then .ok (.lst ys) φ2 else .bad
  | _ => .bad
def bYes : SB := fun _ φ => .ok true φ
theorem lcGo_cons {T : Tg} {tst : SB} {elt : SX} {ρ : En} {d : D} {ds ys : List D} {φ φ' : Fd} (h : lcGo T tst elt ρ (d :: ds) φ = .ok ys φ') :
    ∃ ρ1 b φ1, T d ρ = some ρ1 ∧ tst ρ1 φ = .ok b φ1 ∧ ((b = false ∧ lcGo T tst elt ρ ds φ1 = .ok ys φ') ∨ (b = true ∧ ∃ y φ2 r, elt ρ1 φ1 = .ok y φ2 ∧ lcGo T tst elt ρ ds φ2 = .ok r φ' ∧ ys = y :: r)) := by
  unfold lcGo at h
  cases e1 : T d ρ with
  | none => rw [e1] at h; cases h
  | some ρ1 =>
    rw [e1] at h
    cases e2 : tst ρ1 φ with
    | ex _ _ _ => simp only [e2] at h; cases h
    | bad => simp only [e2] at h; cases h
    | ok b φ1 =>
      cases b with
      | false => simp only [e2] at h; exact ⟨ρ1, false, φ1, rfl, e2, .inl ⟨rfl, h⟩⟩
      | true =>
        simp only [e2] at h
        cases e3 : elt ρ1 φ1 with
        | ex _ _ _ => simp only [e3] at h; cases h
        | bad => simp only [e3] at h; cases h
        | ok y φ2 =>
          simp only [e3] at h
          cases e4 : lcGo T tst elt ρ ds φ2 with
          | ex _ _ _ => simp only [e4] at h; cases h
          | bad => simp only [e4] at h; cases h
          | ok r φ3 =>
            simp only [e4] at h
            cases h
            exact ⟨ρ1, true, φ1, rfl, e2, .inr ⟨rfl, y, φ2, r, e3, e4, rfl⟩⟩
def W0 : WX := fun _ _ _ _ => False
section
variable {c : Ct} {own : List Ms} {Z H Z' H' : Hp} {ρ : En} {φ φ' : Fd} {σ : L2.St}
/-- the slots of a block forgotten -/
theorem Rl.wipe (R : Rl c own Z ρ φ σ H) : ∀ vs : List Nat, Rl c own Z (wipeE ρ vs) φ (L2.wipe σ vs) H
  | [] => R
  | v :: vs => by
    have R1 := R.wipe vs
    show Rl c own Z ((wipeE ρ vs).set v none) φ ((L2.wipe σ vs).set v none) H
    have back : ∀ {j : Nat} {d : D}, ((wipeE ρ vs).set v none)[j]? = some (some d) → j ≠ v ∧ (wipeE ρ vs)[j]? = some (some d) := fun {j d} h => by
      rcases get_set h with ⟨_, q⟩ | ⟨hj, q⟩
      · cases q
      · exact ⟨hj, q⟩
    refine ⟨R1.wf, R1.ext, by simpa using R1.len, fun j d h1 h2 h3 => ?_, fun j d h1 h2 => ?_, fun j k a d e hjk h1 h2 h3 h4 h5 h6 h7 h8 => ?_, fun j d h1 h2 => ?_, fun j d h1 h2 => ?_⟩
    · obtain ⟨hj, q⟩ := back h1
      rw [List.getElem?_set_ne (Ne.symm hj)]
      exact R1.sh j d q h2 h3
    · obtain ⟨hj, q⟩ := back h1
      rw [List.getElem?_set_ne (Ne.symm hj)]
      exact R1.ow j d q h2
    · obtain ⟨hj, q⟩ := back h3
      obtain ⟨hk, q'⟩ := back h5
      rw [List.getElem?_set_ne (Ne.symm hj)] at h7
      rw [List.getElem?_set_ne (Ne.symm hk)] at h8
      exact R1.ne j k a d e hjk h1 h2 q h4 q' h6 h7 h8
    · obtain ⟨hj, q⟩ := back h1
      rw [List.getElem?_set_ne (Ne.symm hj)]
      exact R1.pn j d q h2
    · obtain ⟨hj, q⟩ := back h1
      rw [List.getElem?_set_ne (Ne.symm hj)]
      exact R1.pk j d q h2
end
/-- the own-list within a block -/
def ownB (own : List Ms) (vs : List Nat) : List Ms := vs.foldr (fun i o => o.set i .s) own
theorem ownB_get {own : List Ms} {j : Nat} : ∀ {vs : List Nat}, (ownB own vs)[j]? = some .o → own[j]? = some .o
  | [], h => h
  | v :: vs, h => by
    have h' : ((ownB own vs).set v .s)[j]? = some .o := h
    rcases get_set h' with ⟨_, q⟩ | ⟨_, q⟩
    · cases q
    · exact ownB_get q
theorem ownB_in {own : List Ms} {j : Nat} : ∀ {vs : List Nat}, j ∈ vs → (ownB own vs)[j]? ≠ some .o
  | v :: vs, h => by
    show ((ownB own vs).set v .s)[j]? ≠ some .o
    intro q
    rcases get_set q with ⟨_, q⟩ | ⟨hj, q⟩
    · cases q
    · exact ownB_in ((List.mem_cons.mp h).resolve_left hj) q
theorem ownB_out {own : List Ms} {j : Nat} : ∀ {vs : List Nat}, j ∉ vs → (ownB own vs)[j]? = own[j]?
  | [], _ => rfl
  | v :: vs, h => by
    show ((ownB own vs).set v .s)[j]? = own[j]?
    rw [List.getElem?_set_ne (fun e => h (by rw [e]; exact List.mem_cons_self))]
    exact ownB_out fun q => h (List.mem_cons_of_mem _ q)
theorem wipeE_in {ρ : En} : ∀ {vs : List Nat} {i : Nat} {d : D}, i ∈ vs → (wipeE ρ vs)[i]? ≠ some (some d)
  | v :: vs, i, d, h => by
    show ((wipeE ρ vs).set v none)[i]? ≠ some (some d)
    intro q
    rcases get_set q with ⟨_, q⟩ | ⟨hj, q⟩
    · cases q
    · exact wipeE_in ((List.mem_cons.mp h).resolve_left hj) q
theorem Rl.block {c : Ct} {own : List Ms} {Z H : Hp} {ρ : En} {φ : Fd} {σ : L2.St} (R : Rl c own Z ρ φ σ H) (vs : List Nat) : Rl c (ownB own vs) Z (wipeE ρ vs) φ (L2.wipe σ vs) H := by
  have R1 := R.wipe vs
  refine ⟨R1.wf, R1.ext, R1.len, fun j d h1 h2 h3 => ?_, fun j d h1 h2 => R1.ow j d h1 (ownB_get h2), fun j k a d e hjk h1 h2 => R1.ne j k a d e hjk (ownB_get h1) (ownB_get h2), fun j d h1 h2 => ?_, fun j d h1 h2 => ?_⟩
  · by_cases hj : j ∈ vs
    · exact absurd h1 (wipeE_in hj)
    · exact R1.sh j d h1 (by rw [← ownB_out (vs := vs) hj]; exact h2) (by rw [← ownB_out (vs := vs) hj]; exact h3)
  · have hj : j ∉ vs := fun hj => wipeE_in hj h1
    rw [ownB_out hj] at h2
    exact R1.pn j d h1 h2
  · have hj : j ∉ vs := fun hj => wipeE_in hj h1
    rw [ownB_out hj] at h2
    exact R1.pk j d h1 h2

section
variable {X : Cx} {c : Ct} {own o1 : List Ms} {q : Bool} {W : WX} {pos : Pos}
/-- what the turns of a comprehension need: within the block -/
theorem lc_read {I : SA} {T : Tg} {tst : SB} {elt : SX} {vs is : List Nat} {σ : L2.St} {H : Hp} {Q : VK} (his : ∀ j ∈ is, j ∈ vs) (h : tE c own .o W (eLc I T tst elt vs) σ H Q) :
    tLc (tI c own true W I) (tT c (ownB own vs) o1 is T) (tB c o1 W0 tst) (tE c o1 .s W0 elt) vs σ H Q := by
  obtain ⟨Z, ρ, φ, R, h⟩ := h
  refine ⟨Z, ρ, φ, R, ?_⟩
  unfold eLc at h
  cases hI : I ρ φ with
  | bad => rw [hI] at h; exact h
  | ex y l φ' => rw [hI] at h; exact h
  | ok ds φ1 =>
    rw [hI] at h
    intro J Z1 H1 e1 w1 wk D hD
    have hgo : ∃ ys φ2, lcGo T tst elt (wipeE ρ vs) ds φ1 = .ok ys φ2 ∧ ys.length ≤ sizeLine ∧ Post c .o W (.ok (.lst ys) φ2) σ Z H Q := by
      have h' : Post c .o W (match lcGo T tst elt (wipeE ρ vs) ds φ1 with
        | .ok ys φ2 => if ys.length ≤ sizeLine then .ok (.lst ys) φ2 else .bad
        | _ => .bad) σ Z H Q := h
      cases hg : lcGo T tst elt (wipeE ρ vs) ds φ1 with
      | bad => rw [hg] at h'; exact h'.elim
      | ex _ _ _ => rw [hg] at h'; exact h'.elim
      | ok ys φ2 =>
        rw [hg] at h'
        obtain ⟨h1, h2⟩ := iteO_ok (E := fun o => Post c .o W o σ Z H Q) h' fun z => z
        exact ⟨ys, φ2, rfl, h1, h2⟩
    obtain ⟨tot, φe, hgo, hsz, hpost⟩ := hgo
    have hDf : D ≠ c.f := fun e => w1.hf (by rw [← e]; exact hD)
    have hDz : ∀ Z2 H2, Ext c.f Z1 H1 Z2 H2 → True := fun _ _ _ => trivial
    -- the invariant
    refine ⟨fun i m Hn => m = ds.length - i ∧ i ≤ ds.length ∧ ∃ Zn φn acc accV rest, (∀ a o, Z1 a = some o → Zn a = some o) ∧ (∀ a o, a ≠ c.f → H1 a = some o → Hn a = some o) ∧ (∀ a, H1 a ≠ none → Hn a ≠ none) ∧ (∀ a, H1 a ≠ none → Z1 a = none → Zn a = none) ∧ FdK c.f H1 Hn ∧
      Zn D = none ∧ Wf c.K c.f Zn Hn φn ∧ Hn D = some (.lst accV) ∧ Reps c.K c.f Zn accV acc ∧ lcGo T tst elt (wipeE ρ vs) (ds.drop i) φn = .ok rest φe ∧ acc ++ rest = tot, ⟨ds.length, by simp, Nat.zero_le _, ?_⟩, ?_⟩
    · have up : ∀ b u, H1 b = some u → upd H1 D (.lst []) b = some u := fun b u e => by rw [upd_ne (ne_of_none e hD)]; exact e
      have hz : Z1 D = none := by
        cases e : Z1 D with
        | none => rfl
        | some u => rw [w1.sub D u e] at hD; cases hD
      refine ⟨Z1, φ1, [], [], tot, fun _ _ e => e, fun b u _ e => up b u e, fun b hb => ?_, fun _ _ e => e, .same (upd_ne (Ne.symm hDf)), hz, ⟨fun b u e => up b u (w1.sub b u e), w1.zf, ?_, w1.ok⟩, upd_same, .nil, hgo, rfl⟩
      · cases e : H1 b with
        | none => exact absurd e hb
        | some u => rw [up b u e]; simp
      · obtain ⟨s, k1, k2⟩ := w1.feed
        exact ⟨s, k1, up _ _ k2⟩
    · rintro i m Hn ⟨rfl, hi, Zn, φn, acc, accV, rest, kz, kh, kk, kn, kd, nD, wn, hDn, ra, hg, ht⟩
      have en : Ext c.f Z1 H1 Zn Hn := ⟨kz, kh, kk, kn, kd⟩
      obtain ⟨wk1, wk2⟩ := wk i Zn Hn φn ⟨kz, fun _ => kh, (((R.more e1 w1).ext.trans en)).h⟩ wn
      by_cases hlt : i < ds.length
      · obtain ⟨d, hd⟩ : ∃ d, ds[i]? = some d := ⟨_, List.getElem?_eq_getElem hlt⟩
        obtain ⟨go, step⟩ := wk2 d hd
        rw [List.drop_eq_getElem_cons hlt] at hg
        have hdd : ds[i] = d := by
          rw [List.getElem?_eq_getElem hlt] at hd
          exact Option.some.inj hd
        rw [hdd] at hg
        obtain ⟨ρ1, b, φt, hT, htst, hcase⟩ := lcGo_cons hg
        refine .inr ⟨go, fun H' => ∃ m', m' < ds.length - i ∧ (m' = ds.length - (i + 1) ∧ i + 1 ≤ ds.length ∧ ∃ Zn φn acc accV rest, (∀ a o, Z1 a = some o → Zn a = some o) ∧ (∀ a o, a ≠ c.f → H1 a = some o → H' a = some o) ∧ (∀ a, H1 a ≠ none → H' a ≠ none) ∧ (∀ a, H1 a ≠ none → Z1 a = none → Zn a = none) ∧ FdK c.f H1 H' ∧
          Zn D = none ∧ Wf c.K c.f Zn H' φn ∧ H' D = some (.lst accV) ∧ Reps c.K c.f Zn accV acc ∧ lcGo T tst elt (wipeE ρ vs) (ds.drop (i + 1)) φn = .ok rest φe ∧ acc ++ rest = tot), fun H' h => h, fun x Hx hx => ?_⟩
        obtain ⟨Zx, ex, wx, rx⟩ := step x Hx hx
        have exx := en.trans ex
        have Rb : Rl c (ownB own vs) Zx (wipeE ρ vs) φn (L2.wipe σ vs) Hx := ((R.more e1 w1).more exx wx).block vs
        refine ⟨Zx, wipeE ρ vs, φn, d, ρ1, Rb, rx, hT, fun σ2 tr agr => ⟨?_, Zx, ρ1, φn, tr Zx Hx φn Sub.refl Rb, ?_⟩⟩
        · have hh : L2.wipe σ2 vs = L2.wipe (L2.wipe σ vs) vs := agr.wipe his
          rw [hh]
          refine Agr.wipe (is := vs) ⟨wipe_length _ _, fun j hj => wipe_out hj⟩ fun j h => h
        · have R2 := tr Zx Hx φn Sub.refl Rb
          have nDx : Zx D = none := ex.n D (by rw [hDn]; simp) nD
          have hDx : Hx D = some (.lst accV) := ex.h D _ hDf hDn
          rw [htst]
          intro Z3 H3 e3 w3
          have nD3 : Z3 D = none := e3.n D (by rw [hDx]; simp) nDx
          have hD3 : H3 D = some (.lst accV) := e3.h D _ hDf hDx
          have en3 := exx.trans e3
          have ra3 := (ra.mono ex.z).mono e3.z
          rcases hcase with ⟨rfl, hr⟩ | ⟨rfl, y, φy, r, hy, hr, hys⟩
          · rw [if_neg (by decide)]
            exact ⟨ds.length - (i + 1), by omega, rfl, hlt, Z3, φt, acc, accV, rest, en3.z, en3.h, en3.k, en3.n, en3.d, nD3, w3, hD3, ra3, hr, ht⟩
          · rw [if_pos rfl]
            refine ⟨Z3, ρ1, φt, R2.more e3 w3, ?_⟩
            rw [hy]
            intro v Z4 H4 e4 w4 r4
            have r4' : Rep c.K c.f Z4 v y := r4
            have nD4 : Z4 D = none := e4.n D (by rw [hD3]; simp) nD3
            have hD4 : H4 D = some (.lst accV) := e4.h D _ hDf hD3
            have en4 := en3.trans e4
            have ra4 := ra3.mono e4.z
            have hacc : accV.length < sizeLine := by
              have h1 := ra.length
              have h2 : (acc ++ rest).length ≤ sizeLine := by rw [ht]; exact hsz
              rw [hys, List.length_append, List.length_cons] at h2
              omega
            refine ⟨accV, hD4, hacc, ds.length - (i + 1), by omega, rfl, hlt, Z4, φy, acc ++ [y], accV ++ [v], r, en4.z, fun a o ha hh => ?_, fun a ha => ?_, en4.n, en4.d.trans (.same (upd_ne (Ne.symm hDf))), nD4, ⟨fun a o ha => ?_, w4.zf, ?_, w4.ok⟩, upd_same, ra4.app (.cons r4' .nil), hr, ?_⟩
            · rw [upd_ne (ne_of_none hh hD)]; exact en4.h a o ha hh
            · by_cases hb : a = D
              · rw [hb, upd_same]; simp
              · rw [upd_ne hb]; exact en4.k a ha
            · rw [upd_ne (fun e => by rw [e, nD4] at ha; cases ha)]; exact w4.sub a o ha
            · obtain ⟨s, k1, k2⟩ := w4.feed
              exact ⟨s, k1, by rw [upd_ne (Ne.symm hDf)]; exact k2⟩
            · rw [List.append_assoc]; rw [← ht, hys]; rfl
      · have hie : i = ds.length := by omega
        refine .inl ⟨wk1 hie, ?_⟩
        rw [hie, List.drop_length] at hg
        cases hg
        rw [List.append_nil] at ht
        subst ht
        have e2 := e1.trans en
        refine hpost (.ref D) Zn Hn e2 wn ?_
        show Res .o c.K c.f H Zn Hn (.ref D) (.lst acc)
        unfold Res
        rw [if_pos (by rfl)]
        refine ⟨D, .lst accV, rfl, ?_, nD, hDf, hDn, .lst ra⟩
        cases e : H D with
        | none => rfl
        | some u => exact absurd hD (e1.k D (by rw [e]; simp))
theorem x_lc {elt tg iter : Expr} {ifs : List Expr} {scope : Scope} (nm : List (Str × Nat)) {is : List Nat} {I : SA} {T : Tg} {tst : SB} {elt' : SX} (hc : X.calm = true) (hN : X.N.Nodup) (ok : blkC X.N X.env.scope scope nm = true)
    (hi : IJ X c own true W tg iter I)
    (hg : ∀ (s : Shared) (H : Hp) (C : Addr) (cl : List (Str × Addr)) (fp : List Addr), TJ (X.blk s H scope (compEnvC scope cl C X.env) fp) c (ownB own (nm.map (·.2))) o1 is tg T)
    (ht : ∀ (s : Shared) (H : Hp) (C : Addr) (cl : List (Str × Addr)) (fp : List Addr), PTs (X.blk s H scope (compEnvC scope cl C X.env) fp) ifs (tB c o1 W0 tst))
    (he : ∀ (s : Shared) (H : Hp) (C : Addr) (cl : List (Str × Addr)) (fp : List Addr), EX (X.blk s H scope (compEnvC scope cl C X.env) fp) c o1 .s W0 elt elt')
    (hs : ∀ x, foldedSetIterable iter X.env x = pure x := by intro _; rfl) (hsub : ∀ j ∈ is, j ∈ nm.map (·.2) := by decide) :
    EX X c own .o W (.ListComp elt [⟨tg, iter, ifs, 0⟩] scope pos) (eLc I T tst elt' (nm.map (·.2))) :=
  PE.weak (pe_lc hc hN hi (blkOk_by ok) hg ht he hs) fun _ _ _ h => lc_read hsub h
theorem t_yes : PTs X [] (tB c own W bYes) := ⟨fun pins s σ H Q I ⟨Z, ρ, φ, R, h⟩ => pts_nil.run pins s σ H Q I (h Z H .refl R.wf)⟩
theorem t_one {e : Expr} {A : SB} (h : BX X c own W e A) : PTs X [e] (tB c own W A) := pts_one h
end
end Pf

set_option Elab.async false
set_option linter.all false
set_option maxRecDepth 100000
set_option maxHeartbeats 4000000
namespace Pf
open PySem PySem.Spec PyProof.Rows L2

/-! ## blocks -/
def sNil : SS := fun ρ φ => .nx ρ φ
def R.seq (r : R) (k : SS) : R :=
  match r with
  | .nx ρ φ => k ρ φ
  | r => r
def sSeq (A B : SS) : SS := fun ρ φ => (A ρ φ).seq B
section
variable {X : Cx} {c : Ct} {w : Ow} {own o1 on : List Ms} {pos : Pos}
theorem s_nil : SJs X c w own own [] sNil := PSs.weak pss_nil fun Dn σ H ⟨Z, ρ, φ, R0, h⟩ => h σ Z H Sub.refl R0
theorem s_cons {st : Stmt} {sts : List Stmt} {A B : SS} (h1 : SJ X c w own o1 st A) (h2 : SJs X c w o1 on sts B) : SJs X c w own on (st :: sts) (sSeq A B) := by
  refine PSs.weak (pss_cons h1 h2) ?_
  rintro Dn σ H ⟨Z, ρ, φ, R0, h⟩
  refine ⟨Z, ρ, φ, R0, ?_⟩
  unfold sSeq at h
  cases e : A ρ φ with
  | nx ρ1 φ1 =>
    rw [e] at h
    exact fun σ1 Z1 H1 k R1 => ⟨Z1, ρ1, φ1, R1, h.shift k⟩
  | rt d φ1 => rw [e] at h; exact h
  | bk ρ1 φ1 => rw [e] at h; exact h
  | ct ρ1 φ1 => rw [e] at h; exact h
  | ex y l ρ1 φ1 => rw [e] at h; exact h
  | bad => rw [e] at h; exact h
/-- cells are frozen ahead of a block -/
theorem s_frz (is : List Nat) (hp : ∀ i ∈ is, own[i]? ≠ some .p) {sts : List Stmt} {A : SS} (h : SJs X c w (is.foldr (fun i o => o.set i .s) own) on sts A) : SJs X c w own on sts A := by
  refine PSs.weak h ?_
  rintro Dn σ H ⟨Z, ρ, φ, R0, h⟩
  obtain ⟨Z', k, R1⟩ := R0.frzs is hp
  exact ⟨Z', ρ, φ, R1, h.shift k⟩
theorem s_frz1 (is : List Nat) (hp : ∀ i ∈ is, own[i]? ≠ some .p) {st : Stmt} {A : SS} (h : SJ X c w (is.foldr (fun i o => o.set i .s) own) on st A) : SJ X c w own on st A := by
  refine PS.weak h ?_
  rintro Dn σ H ⟨Z, ρ, φ, R0, h⟩
  obtain ⟨Z', k, R1⟩ := R0.frzs is hp
  exact ⟨Z', ρ, φ, R1, h.shift k⟩
/-- .. behind it -/
theorem s_end (is : List Nat) (hp : ∀ i ∈ is, on[i]? ≠ some .p) {sts : List Stmt} {A : SS} (h : SJs X c w own on sts A) : SJs X c w own (is.foldr (fun i o => o.set i .s) on) sts A := by
  refine PSs.weak h ?_
  rintro Dn σ H ⟨Z, ρ, φ, R0, h⟩
  refine ⟨Z, ρ, φ, R0, ?_⟩
  cases e : A ρ φ with
  | nx ρ1 φ1 =>
    rw [e] at h
    intro σ1 Z1 H1 k R1
    obtain ⟨Z2, k2, R2⟩ := R1.frzs is hp
    exact h σ1 Z2 H1 (k.trans k2) R2
  | rt d φ1 => rw [e] at h; exact h
  | bk ρ1 φ1 => rw [e] at h; exact h
  | ct ρ1 φ1 => rw [e] at h; exact h
  | ex y l ρ1 φ1 => rw [e] at h; exact h
  | bad => rw [e] at h; exact h
/-- a block that never comes to its end may end with any own-list -/
theorem s_any {o2 : List Ms} {sts : List Stmt} {A : SS} (h : SJs X c w own on sts A) (hn : ∀ ρ φ ρ' φ', A ρ φ ≠ .nx ρ' φ') : SJs X c w own o2 sts A := by
  refine PSs.weak h ?_
  rintro Dn σ H ⟨Z, ρ, φ, R0, h⟩
  refine ⟨Z, ρ, φ, R0, ?_⟩
  cases e : A ρ φ with
  | nx ρ1 φ1 => exact absurd e (hn _ _ _ _)
  | rt d φ1 => rw [e] at h; exact h
  | bk ρ1 φ1 => rw [e] at h; exact h
  | ct ρ1 φ1 => rw [e] at h; exact h
  | ex y l ρ1 φ1 => rw [e] at h; exact h
  | bad => rw [e] at h; exact h

/-! ## simple statements -/
def sSet (i : Nat) (A : SX) : SS := fun ρ φ => (A ρ φ).toR ρ fun d φ1 => .nx (ρ.set i (some d)) φ1
theorem set_read (i : Nat) {A : SX} {m : Md} {Dn : Ends} {σ : L2.St} {H : Hp} (hx : w.ox own) (hm : (m = .o ∧ i < own.length ∧ on = own.set i .o) ∨ (m = .s ∧ on = own.set i .s)) (h : tS c w own on (sSet i A) Dn σ H) :
    tAsg (tE c own m w.W A) (gName i) Dn σ H := by
  obtain ⟨Z, ρ, φ, R0, h⟩ := h
  refine ⟨Z, ρ, φ, R0, Post.toS (w := w) hx R0 h fun d φ1 v Z1 H1 e1 w1 r1 h1 => ?_⟩
  rcases hm with ⟨rfl, hi, rfl⟩ | ⟨rfl, rfl⟩
  · exact h1 _ Z1 H1 Sub.refl (R0.setO e1 w1 hi r1)
  · exact h1 _ Z1 H1 Sub.refl ((R0.more e1 w1).setS r1)
theorem s_setO (i : Nat) {x : Str} {e : Expr} {A : SX} {pos' : Pos} (hN : X.N.Nodup) (ha : EX X c own .o w.W e A) (hi : X.N[i]? = some x := by rfl) (hx : Loc X.env.scope x := by first | exact Or.inl rfl | exact Or.inr rfl) (hl : i < own.length := by decide)
    (hs : swapsWith e (some (.Name x pos')) pos.line X.env = pure false := by rfl) (hf : X.fn x = true ∨ X.env.scope.names.lookup x = some .local := by first | exact .inl rfl | exact .inr rfl) (ho : w.ox own := by first | exact trivial | rfl) :
    SJ X c w own (own.set i .o) (.Assign [.Name x pos'] e pos) (sSet i A) :=
  PS.weak (ps_set hN hi hx ha hs hf) fun Dn σ H h => set_read i ho (.inl ⟨rfl, hl, rfl⟩) h
theorem s_setS (i : Nat) {x : Str} {e : Expr} {A : SX} {pos' : Pos} (hN : X.N.Nodup) (ha : EX X c own .s w.W e A) (hi : X.N[i]? = some x := by rfl) (hx : Loc X.env.scope x := by first | exact Or.inl rfl | exact Or.inr rfl)
    (hs : swapsWith e (some (.Name x pos')) pos.line X.env = pure false := by rfl) (hf : X.fn x = true ∨ X.env.scope.names.lookup x = some .local := by first | exact .inl rfl | exact .inr rfl) (ho : w.ox own := by first | exact trivial | rfl) :
    SJ X c w own (own.set i .s) (.Assign [.Name x pos'] e pos) (sSet i A) :=
  PS.weak (ps_set hN hi hx ha hs hf) fun Dn σ H h => set_read i ho (.inr ⟨rfl, rfl⟩) h
/-- name = [.. for ..], the name a local of the def -/
theorem s_setLc (i : Nat) {y : Str} {py : Pos} {elt tg iter : Expr} {ifs : List Expr} {scope : Scope} (nm : List (Str × Nat)) {is : List Nat} {I : SA} {T : Tg} {tst : SB} {elt' : SX} {lcp : Pos} (hc : X.calm = true) (hN : X.N.Nodup) (ok : blkC X.N X.env.scope scope nm = true)
    (hi : IJ X c own true w.W tg iter I)
    (hg : ∀ (s : Shared) (H : Hp) (C : Addr) (cl : List (Str × Addr)) (fp : List Addr), TJ (X.blk s H scope (compEnvC scope cl C X.env) fp) c (ownB own (nm.map (·.2))) o1 is tg T)
    (ht : ∀ (s : Shared) (H : Hp) (C : Addr) (cl : List (Str × Addr)) (fp : List Addr), PTs (X.blk s H scope (compEnvC scope cl C X.env) fp) ifs (tB c o1 W0 tst))
    (he : ∀ (s : Shared) (H : Hp) (C : Addr) (cl : List (Str × Addr)) (fp : List Addr), EX (X.blk s H scope (compEnvC scope cl C X.env) fp) c o1 .s W0 elt elt')
    (hy : X.N[i]? = some y := by rfl) (hyl : X.env.scope.names.lookup y = some .local := by rfl) (hsw : swapsWith (.ListComp elt [⟨tg, iter, ifs, 0⟩] scope lcp) (some (.Name y py)) pos.line X.env = pure true := by exact sw_true rfl rfl rfl (by decide +kernel))
    (hl : i < own.length := by decide) (hs : ∀ x, foldedSetIterable iter X.env x = pure x := by intro _; rfl) (hsub : ∀ j ∈ is, j ∈ nm.map (·.2) := by decide) (ho : w.ox own := by first | exact trivial | rfl) :
    SJ X c w own (own.set i .o) (.Assign [.Name y py] (.ListComp elt [⟨tg, iter, ifs, 0⟩] scope lcp) pos) (sSet i (eLc I T tst elt' (nm.map (·.2)))) := by
  refine PS.weak (ps_setLc hc hN hy hyl hsw hi (blkOk_by ok) hg ht he hs) fun Dn σ H h => ?_
  have h2 := set_read (m := .o) i ho (.inl ⟨rfl, hl, rfl⟩) h
  exact lc_read hsub h2
/-- targets of several names -/
def sAsg (T : Tg) (A : SX) : SS := fun ρ φ => (A ρ φ).toR ρ fun d φ1 => match T d ρ with
  | some ρ' => .nx ρ' φ1
  | none => .bad
theorem s_asg {tg e : Expr} {T : Tg} {A : SX} {is : List Nat} (ha : EX X c own .s w.W e A) (hg : TJ X c own on is tg T) (hs : swapsWithSole [tg] e pos.line X.env = pure false := by rfl) (hw : swappedStores [tg] e X.env = pure none := by rfl)
    (h1 : (assignEach [tg] X.env).map (·.2) = [assign tg X.env] := by rfl) (ho : w.ox own := by first | exact trivial | rfl) : SJ X c w own on (.Assign [tg] e pos) (sAsg T A) := by
  refine PS.weak (ps_asg ha hg hs hw h1) ?_
  rintro Dn σ H ⟨Z, ρ, φ, R0, h⟩
  refine ⟨Z, ρ, φ, R0, Post.toS (w := w) ho R0 h fun d φ1 v Z1 H1 e1 w1 r1 h1 => ?_⟩
  cases eT : T d ρ with
  | none => simp only [eT] at h1; exact h1.elim
  | some ρ' =>
    simp only [eT] at h1
    exact ⟨Z1, ρ, φ1, d, ρ', R0.more e1 w1, r1, eT, fun σ' tr _ => h1 σ' Z1 H1 Sub.refl (tr Z1 H1 φ1 Sub.refl (R0.more e1 w1))⟩
/-- a, b = x, y: the values first -/
def sPar (i j : Nat) (A : SA) : SS := fun ρ φ => (A ρ φ).toR ρ fun ds φ1 => match ds with
  | [d, e] => .nx ((ρ.set i (some d)).set j (some e)) φ1
  | _ => .bad
theorem s_par (i j : Nat) {x y : Str} {a b : Expr} {A : SA} {px py pt : Pos} {kt k2 pt2} (hc : X.calm = true) (hN : X.N.Nodup) (ha : AX X c own .s w.W [a, b] A) (hi : X.N[i]? = some x := by rfl) (hj : X.N[j]? = some y := by rfl) (hij : i ≠ j := by decide)
    (hx : X.env.scope.names.lookup x = some .local := by rfl) (hy : X.env.scope.names.lookup y = some .local := by rfl)
    (hw : swappedStores [.Tuple [.Name x px, .Name y py] kt pt] (.Tuple [a, b] k2 pt2) X.env = pure (some [x, y]) := by rfl)
    (hs : swapsWithSole [.Tuple [.Name x px, .Name y py] kt pt] (.Tuple [a, b] k2 pt2) pos.line X.env = pure false := by rfl) (ho : w.ox own := by first | exact trivial | rfl) :
    SJ X c w own ((own.set i .s).set j .s) (.Assign [.Tuple [.Name x px, .Name y py] kt pt] (.Tuple [a, b] k2 pt2) pos) (sPar i j A) := by
  refine PS.weak (ps_par hc hN hi hj hij hx hy ha hw hs) ?_
  rintro Dn σ H ⟨Z, ρ, φ, R0, h⟩
  refine ⟨Z, ρ, φ, R0, PostA.toS (w := w) ho R0 h fun ds φ1 vs Z1 H1 e1 w1 r1 h1 => ?_⟩
  revert r1 h1
  split
  · intro r1 h1
    obtain ⟨u, v, rfl, r2, r3⟩ := r1.two'
    exact ⟨u, v, rfl, h1 _ Z1 H1 Sub.refl (((R0.more e1 w1).setS r2).setS r3)⟩
  · intro _ h1
    exact h1.elim
/-- an expression alone -/
def sExp (A : SX) : SS := fun ρ φ => (A ρ φ).toR ρ fun _ φ1 => .nx ρ φ1
theorem s_exp {e : Expr} {A : SX} {m : Md} (ha : EX X c own m w.W e A) (hs : swapsWith e none pos.line X.env = pure false := by rfl) (ho : w.ox own := by first | exact trivial | rfl) : SJ X c w own own (.Expr e pos) (sExp A) := by
  refine PS.weak (ps_expr ha hs) ?_
  rintro Dn σ H ⟨Z, ρ, φ, R0, h⟩
  exact ⟨Z, ρ, φ, R0, Post.toS (w := w) ho R0 h fun d φ1 v Z1 H1 e1 w1 r1 h1 => h1 σ Z1 H1 Sub.refl (R0.more e1 w1)⟩
theorem s_doc {x j pos'} : SJ X c w own own (.Expr (.Constant (.str x) j pos) pos') sNil := PS.weak ps_doc fun Dn σ H ⟨Z, ρ, φ, R0, h⟩ => h σ Z H Sub.refl R0
theorem s_pass : SJ X c w own own (.Pass pos) sNil := PS.weak ps_pass fun Dn σ H ⟨Z, ρ, φ, R0, h⟩ => h σ Z H Sub.refl R0
def sBrk : SS := fun ρ φ => .bk ρ φ
def sCnt : SS := fun ρ φ => .ct ρ φ
theorem s_brk {m : Md} {W : WX} {ox : List Ms → Prop} : SJ X c ⟨m, W, ox, own⟩ own on (.Break pos) sBrk := PS.weak ps_break fun Dn σ H ⟨Z, ρ, φ, R0, h⟩ => h σ Z H Sub.refl R0
theorem s_cnt {m : Md} {W : WX} {ox : List Ms → Prop} : SJ X c ⟨m, W, ox, own⟩ own on (.Continue pos) sCnt := PS.weak ps_continue fun Dn σ H ⟨Z, ρ, φ, R0, h⟩ => h σ Z H Sub.refl R0
/-- return e -/
def sRet (A : SX) : SS := fun ρ φ => (A ρ φ).toR ρ fun d φ1 => .rt d φ1
theorem s_ret {e : Expr} {A : SX} (ha : EX X c own w.m w.W e A) (ho : w.ox own := by first | exact trivial | rfl) : SJ X c w own on (.Return (some e) pos) (sRet A) := by
  refine PS.weak (ps_ret ha) ?_
  rintro Dn σ H ⟨Z, ρ, φ, R0, h⟩
  refine ⟨Z, ρ, φ, R0, Post.toS (w := w) ho R0 h fun d φ1 v Z1 H1 e1 w1 r1 h1 => ?_⟩
  exact h1 v Z1 H1 (R0.more e1 w1).ext w1 (r1.start R0.ext.k)
/-- return x, x an own name: it goes out as it is -/
theorem s_retN (i : Nat) {x : Str} {p : Pos} (hm : w.m = .o := by rfl) (hw : own[i]? = some .o := by rfl) (hN : X.N[i]? = some x := by rfl) (hv : Vis X.env.scope x := by first | exact Or.inl rfl | exact Or.inr (Or.inl rfl) | exact Or.inr (Or.inr rfl)) (hd : (x == ("__debug__" : Str)) = false := by decide)
    (hcd : (x == ("__classdict__" : Str)) = false := by decide) : SJ X c w own on (.Return (some (.Name x p)) pos) (sRet (eVar i)) := by
  refine PS.weak (ps_ret (pe_var hN hv hd hcd)) ?_
  rintro Dn σ H ⟨Z, ρ, φ, R0, h⟩
  unfold sRet eVar at h
  split at h
  · rename_i d hdd
    obtain ⟨v, hv, r⟩ := R0.ow i d hdd hw
    exact ⟨v, hv, h v Z H R0.ext R0.wf (by rw [hm]; exact r)⟩
  · exact h.elim
def sRetN : SS := fun _ φ => .rt .non φ
theorem s_ret0 : SJ X c w own on (.Return none pos) sRetN := PS.weak ps_retN fun Dn σ H ⟨Z, ρ, φ, R0, h⟩ => h _ Z H R0.ext R0.wf (Res.of_flat .non rfl)
/-- if -/
def sIf (T : SB) (A B : SS) : SS := fun ρ φ => (T ρ φ).toR ρ fun b φ1 => if b = true then A ρ φ1 else B ρ φ1
theorem s_if {t : Expr} {a b : List Stmt} {T : SB} {A B : SS} (ht : BX X c own w.W t T) (ha : SJs X c w own on a A) (hb : SJs X c w own on b B) (ho : w.ox own := by first | exact trivial | rfl) : SJ X c w own on (.If t a b pos) (sIf T A B) := by
  refine PS.weak (ps_if ht ha hb) ?_
  rintro Dn σ H ⟨Z, ρ, φ, R0, h⟩
  refine ⟨Z, ρ, φ, R0, PostB.toS (w := w) ho R0 h fun d φ1 Z1 H1 e1 w1 h1 => ?_⟩
  cases d with
  | true => exact ⟨Z1, ρ, φ1, R0.more e1 w1, h1⟩
  | false => exact ⟨Z1, ρ, φ1, R0.more e1 w1, h1⟩

/-! ## own lists changed -/
/-- x.meth(e), x an own list: g the new list -/
def sMut (i : Nat) (g : List D → D → Option (List D)) (A : SX) : SS := fun ρ φ => match ρ[i]? with
  | some (some (.lst l)) => (A ρ φ).toR ρ fun e φ1 => (match g l e with | some l' => .nx (ρ.set i (some (.lst l'))) φ1 | none => .bad)
  | _ => .bad
theorem Rl.cell {Z H : Hp} {ρ : En} {φ : Fd} {σ : L2.St} (R0 : Rl c own Z ρ φ σ H) {i : Nat} {ds : List D} (ho : own[i]? = some .o) (hd : ρ[i]? = some (some (.lst ds))) : ∃ a vs, σ[i]? = some (some (.ref a)) ∧ H a = some (.lst vs) ∧ Reps c.K c.f Z vs ds ∧ Z a = none := by
  obtain ⟨u, hu, ru⟩ := R0.ow i _ hd ho
  unfold Res at ru
  rw [if_pos (by rfl)] at ru
  obtain ⟨a, o, rfl, _, hz, _, ha, rc⟩ := ru
  cases rc with
  | lst q => exact ⟨a, _, hu, ha, q, hz⟩
/-- g tells what the rule r asks -/
def MutG (r : V → List V → Hp → VK → Prop) (c : Ct) (m : Md) (g : List D → D → Option (List D)) : Prop :=
  ∀ (Z H H0 : Hp) (φ : Fd) (a : Addr) (vs : List V) (ds ds' : List D) (y : V) (e : D) (Q : VK), Wf c.K c.f Z H φ → H a = some (.lst vs) → Reps c.K c.f Z vs ds → Res m c.K c.f H0 Z H y e → g ds e = some ds' →
    (∀ vs', Reps c.K c.f Z vs' ds' → Q .non (upd H a (.lst vs'))) → r (.ref a) [y] H Q
theorem s_mut1 (i : Nat) {x nm : Str} {e : Expr} {A : SX} {p apos cpos pos2 : Pos} {m : Md} {r : V → List V → Hp → VK → Prop} {g : List D → D → Option (List D)} (hG : MutG r c m g)
    (hpe : PE X (.Call (.Attribute (.Name x p) nm apos) [e] [] cpos) (tBM X.K "list" r (tVar i) (tCons (tE c own m w.W A) tNil))) (hw : own[i]? = some .o := by rfl)
    (hs : swapsWith (.Call (.Attribute (.Name x p) nm apos) [e] [] cpos) none pos2.line X.env = pure false := by rfl) (ho : w.ox own := by first | exact trivial | rfl) :
    SJ X c w own own (.Expr (.Call (.Attribute (.Name x p) nm apos) [e] [] cpos) pos2) (sMut i g A) := by
  refine PS.weak (ps_expr hpe hs) ?_
  rintro Dn σ H ⟨Z, ρ, φ, R0, h⟩
  unfold sMut at h
  split at h
  · rename_i l hd
    obtain ⟨a, vs, ha, hH, rs, hz⟩ := R0.cell hw hd
    refine ⟨.ref a, ha, .inl ⟨rfl, vs, .inl (.inl hH)⟩, Z, ρ, φ, R0, Post.toS (w := w) ho R0 h fun d φ1 v Z1 H1 e1 w1 r1 h1 => ?_⟩
    split at h1
    · rename_i l' hg
      have R1 := R0.more e1 w1
      obtain ⟨b, us, hb, hH1, rs1, hz1⟩ := Rl.cell R1 hw hd
      rw [ha] at hb
      cases hb
      refine hG Z1 H1 H φ1 a us l l' v d _ w1 hH1 rs1 r1 hg fun vs' rs' => ?_
      exact h1 σ Z1 _ Sub.refl (R1.write hw hd rfl ha (.lst rs'))
    · exact h1.elim
  · exact h.elim
def gApp (l : List D) (e : D) : Option (List D) := if l.length < sizeLine then some (l ++ [e]) else none
def gExt (l : List D) (e : D) : Option (List D) := match e with
  | .lst k => if l.length + k.length ≤ sizeLine then some (l ++ k) else none
  | _ => none
theorem gApp_ok : MutG rAppend c .s gApp := by
  intro Z H H0 φ a vs ds ds' y e Q w ha rs ry hg h
  obtain ⟨hz, rfl⟩ := ifs hg
  exact ⟨a, vs, y, rfl, rfl, ha, by rw [rs.length]; exact hz, h _ (rs.app (.cons (show Rep c.K c.f Z y e from ry) .nil))⟩
theorem gExt_ok : MutG rExtend c .p gExt := by
  intro Z H H0 φ a vs ds ds' y e Q w ha rs ry hg h
  cases e with
  | lst k =>
    obtain ⟨hz, rfl⟩ := ifs hg
    obtain ⟨b, us, rfl, hb, rs'⟩ := (show Res .p c.K c.f H Z H y (.lst k) from ry).lst w
    exact ⟨a, b, vs, us, rfl, rfl, ha, hb, by rw [rs.length, rs'.length]; exact hz, h _ (rs.app rs')⟩
  | _ => cases hg
/-- x.append(e) -/
theorem s_append (i : Nat) {x : Str} {e : Expr} {A : SX} {p apos cpos pos2 : Pos} (ha : EX X c own .s w.W e A) (hw : own[i]? = some .o := by rfl) (hN : X.N[i]? = some x := by rfl) (hv : Vis X.env.scope x := by first | exact Or.inl rfl | exact Or.inr (Or.inl rfl) | exact Or.inr (Or.inr rfl))
    (hd : (x == ("__debug__" : Str)) = false := by decide) (hcd : (x == ("__classdict__" : Str)) = false := by decide)
    (hbase : attributeBase (.Name x p) "append" X.env (eval (.Name x p) X.env) = eval (.Name x p) X.env := by rfl)
    (hfew : ((backTo cpos (starEach [e] X.env)).all (fun x => !x.1) && (backToKw cpos (keywordEach [] X.env)).all (fun x => x.1.isSome) && decide ([e].length + ([] : List Keyword).length + (if ([] : List Keyword).isEmpty then 0 else 1) < 30)) = true := by rfl)
    (hline : (apos.endLine == cpos.line) = true := by rfl) (hse : starEach [e] X.env = (false, eval e X.env) :: starEach [] X.env := by rfl) (hplain : (backTo cpos (starEach [] X.env)).any (·.1) = false := by rfl)
    (hs : swapsWith (.Call (.Attribute (.Name x p) "append" apos) [e] [] cpos) none pos2.line X.env = pure false := by rfl) (ho : w.ox own := by first | exact trivial | rfl) :
    SJ X c w own own (.Expr (.Call (.Attribute (.Name x p) "append" apos) [e] [] cpos) pos2) (sMut i gApp A) :=
  s_mut1 i gApp_ok (pe_bm PySem.F.plainAttrs_list PySem.F.slot_list_append PySem.F.type_list_append mt_append (pe_var hN hv hd hcd) (pa_cons ha pa_nil hse) hbase hfew hline hse hplain) hw hs ho
theorem s_extend (i : Nat) {x : Str} {e : Expr} {A : SX} {p apos cpos pos2 : Pos} (ha : EX X c own .p w.W e A) (hw : own[i]? = some .o := by rfl) (hN : X.N[i]? = some x := by rfl) (hv : Vis X.env.scope x := by first | exact Or.inl rfl | exact Or.inr (Or.inl rfl) | exact Or.inr (Or.inr rfl))
    (hd : (x == ("__debug__" : Str)) = false := by decide) (hcd : (x == ("__classdict__" : Str)) = false := by decide)
    (hbase : attributeBase (.Name x p) "extend" X.env (eval (.Name x p) X.env) = eval (.Name x p) X.env := by rfl)
    (hfew : ((backTo cpos (starEach [e] X.env)).all (fun x => !x.1) && (backToKw cpos (keywordEach [] X.env)).all (fun x => x.1.isSome) && decide ([e].length + ([] : List Keyword).length + (if ([] : List Keyword).isEmpty then 0 else 1) < 30)) = true := by rfl)
    (hline : (apos.endLine == cpos.line) = true := by rfl) (hse : starEach [e] X.env = (false, eval e X.env) :: starEach [] X.env := by rfl) (hplain : (backTo cpos (starEach [] X.env)).any (·.1) = false := by rfl)
    (hs : swapsWith (.Call (.Attribute (.Name x p) "extend" apos) [e] [] cpos) none pos2.line X.env = pure false := by rfl) (ho : w.ox own := by first | exact trivial | rfl) :
    SJ X c w own own (.Expr (.Call (.Attribute (.Name x p) "extend" apos) [e] [] cpos) pos2) (sMut i gExt A) :=
  s_mut1 i gExt_ok (pe_bm PySem.F.plainAttrs_list PySem.F.slot_list_extend PySem.F.type_list_extend mt_extend (pe_var hN hv hd hcd) (pa_cons ha pa_nil hse) hbase hfew hline hse hplain) hw hs ho
/-- x[k] = e, x an own list -/
def sPut (i : Nat) (A B : SX) : SS := fun ρ φ => (A ρ φ).toR ρ fun d φ1 => match ρ[i]? with
  | some (some (.lst l)) => (B ρ φ1).toR ρ fun k φ2 => (match k with
    | .int z => (match ixN l.length z with | some j => .nx (ρ.set i (some (.lst (l.set j d)))) φ2 | none => .bad)
    | _ => .bad)
  | _ => .bad
theorem s_put (i : Nat) {x : Str} {e k : Expr} {A B : SX} {p p2 : Pos} (ha : EX X c own .s w.W e A) (hk : EX X c own .p w.W k B) (hw : own[i]? = some .o := by rfl) (hN : X.N[i]? = some x := by rfl) (hv : Vis X.env.scope x := by first | exact Or.inl rfl | exact Or.inr (Or.inl rfl) | exact Or.inr (Or.inr rfl))
    (hd : (x == ("__debug__" : Str)) = false := by decide) (hcd : (x == ("__classdict__" : Str)) = false := by decide)
    (hst : ∀ v, assign (.Subscript (.Name x p) k p2) X.env v = (do
      let ov ← holding [v] (eval (.Name x p) X.env)
      let iv ← holding [v, ov] (eval k X.env)
      standAt p2
      holding [v, ov, iv] (setItem ov iv v)
      release [v, ov, iv] []) := by intro _; rfl)
    (hs : swapsWithSole [.Subscript (.Name x p) k p2] e pos.line X.env = pure false := by rfl) (hsw : swappedStores [.Subscript (.Name x p) k p2] e X.env = pure none := by rfl)
    (h1 : (assignEach [.Subscript (.Name x p) k p2] X.env).map (·.2) = [assign (.Subscript (.Name x p) k p2) X.env] := by rfl) (ho : w.ox own := by first | exact trivial | rfl) :
    SJ X c w own own (.Assign [.Subscript (.Name x p) k p2] e pos) (sPut i A B) := by
  refine PS.weak (ps_asg ha (pg_sub (pe_var hN hv hd hcd) hk set_list hst) hs hsw h1) ?_
  rintro Dn σ H ⟨Z, ρ, φ, R0, h⟩
  refine ⟨Z, ρ, φ, R0, Post.toS (w := w) ho R0 h fun d φ1 v Z1 H1 e1 w1 r1 h1 => ?_⟩
  split at h1
  · rename_i l hdd
    have R1 := R0.more e1 w1
    obtain ⟨a, vs, hav, hH, rs, hz⟩ := R1.cell hw hdd
    refine ⟨.ref a, hav, Z1, ρ, φ1, R1, Post.toS (w := w) ho R1 h1 fun kd φ2 kv Z2 H2 e2 w2 r2 h2 => ?_⟩
    cases kd with
    | int z =>
      have R2 := R1.more e2 w2
      obtain ⟨b, us, hb, hH2, rs2, hz2⟩ := R2.cell hw hdd
      rw [hav] at hb
      cases hb
      have h2' : PostS c w own (match ixN l.length z with | some j => R.nx (ρ.set i (some (.lst (l.set j d)))) φ2 | none => .bad) Dn Z2 := h2
      split at h2'
      · rename_i j hj
        exact ⟨a, us, z, j, rfl, r2.int, hH2, by rw [rs2.length]; exact hj, h2' σ Z2 _ Sub.refl (R2.write hw hdd rfl hav (.lst (rs2.set (Rep.mono e2.z r1) j)))⟩
      · exact h2'.elim
    | _ => exact h2.elim
  · exact h1.elim
/-- x += e, ints -/
def sAug (i : Nat) (f : Int → Int → Int) (A : SX) : SS := fun ρ φ => match ρ[i]? with
  | some (some (.int z)) => (A ρ φ).toR ρ fun e φ1 => (match e with | .int k => .nx (ρ.set i (some (.int (f z k)))) φ1 | _ => .bad)
  | _ => .bad
theorem s_aug (i : Nat) {x : Str} {e : Expr} {A : SX} {op : Operator} {f : Int → Int → Int} {p : Pos} (hop : PIp X op (ipI f)) (hNd : X.N.Nodup) (ha : EX X c own .p w.W e A) (hN : X.N[i]? = some x := by rfl) (hx : Loc X.env.scope x := by first | exact Or.inl rfl | exact Or.inr rfl)
    (hf : X.fn x = true ∨ X.env.scope.names.lookup x = some .local := by first | exact .inl rfl | exact .inr rfl) (ho : w.ox own := by first | exact trivial | rfl) : SJ X c w own (own.set i .s) (.AugAssign (.Name x p) op e pos) (sAug i f A) := by
  refine PS.weak (ps_aug hNd hN hx ha hop hf) ?_
  rintro Dn σ H ⟨Z, ρ, φ, R0, h⟩
  unfold sAug at h
  split at h
  · rename_i z hz
    obtain ⟨v, hv, rv⟩ := R0.look hz
    refine ⟨v, hv, Z, ρ, φ, R0, Post.toS (w := w) ho R0 h fun d φ1 u Z1 H1 e1 w1 r1 h1 => ?_⟩
    cases d with
    | int k => exact ⟨z, k, rv.int, r1.int, h1 _ Z1 H1 Sub.refl ((R0.more e1 w1).setS (.int _))⟩
    | _ => exact h1.elim
  · exact h.elim
end

/-! ## loops -/
def forGo (T : Tg) (B : SS) : List D → En → Fd → R
  | [], ρ, φ => .nx ρ φ
  | d :: ds, ρ, φ => match T d ρ with
    | none => .bad
    | some ρ1 => match B ρ1 φ with
      | .nx ρ2 φ2 => forGo T B ds ρ2 φ2
      | .ct ρ2 φ2 => forGo T B ds ρ2 φ2
      | .bk ρ2 φ2 => .nx ρ2 φ2
      | .rt d φ2 => .rt d φ2
      | .ex x l ρ2 φ2 => .ex x l ρ2 φ2
      | .bad => .bad
def sFor (I : SA) (T : Tg) (B : SS) : SS := fun ρ φ => (I ρ φ).toR ρ fun ds φ1 => forGo T B ds ρ φ1
def whGo (C : SB) (B : SS) : Nat → En → Fd → R
  | 0, _, _ => .bad
  | n + 1, ρ, φ => (C ρ φ).toR ρ fun b φ1 => if b = true then (match B ρ φ1 with
      | .nx ρ2 φ2 => whGo C B n ρ2 φ2
      | .ct ρ2 φ2 => whGo C B n ρ2 φ2
      | .bk ρ2 φ2 => .nx ρ2 φ2
      | .rt d φ2 => .rt d φ2
      | .ex x l ρ2 φ2 => .ex x l ρ2 φ2
      | .bad => .bad) else .nx ρ φ1
section
variable {X : Cx} {c : Ct} {m : Md} {W : WX} {ox : List Ms → Prop} {lp own o1 : List Ms} {pos : Pos}
theorem s_for {tg iter : Expr} {body : List Stmt} {is : List Nat} {I : SA} {T : Tg} {B : SS} (hp : PassesOwn (model X.prog X.w) X.A X.env X.xe) (hc : X.calm = true) (hi : IJ X c own false W tg iter I) (hg : TJ X c own o1 is tg T) (hb : SJs X c ⟨m, W, ox, own⟩ o1 own body B)
    (hs : ∀ x, foldedSetIterable iter X.env x = pure x := by intro _; rfl) (ho : ox own := by first | exact trivial | rfl) : SJ X c ⟨m, W, ox, lp⟩ own own (.For tg iter body [] pos) (sFor I T B) := by
  refine PS.weak (ps_for hp hc hi hg hb hs) ?_
  rintro Dn σ H ⟨Z, ρ, φ, R0, h⟩
  refine ⟨Z, ρ, φ, R0, ?_⟩
  unfold sFor at h
  cases hI : I ρ φ with
  | bad => rw [hI] at h; exact h
  | ex y l φ1 => rw [hI] at h; exact fun cls dx Z' H' e w' r => h cls dx σ Z' H' own ho (R0.more e w') r
  | ok ds φ1 =>
    rw [hI] at h
    intro J Z1 H1 e1 w1 wk
    refine ⟨fun i k σn Hn => k = ds.length - i ∧ i ≤ ds.length ∧ ∃ Zn ρn φn, (∀ a o, Z1 a = some o → Zn a = some o) ∧ Rl c own Zn ρn φn σn Hn ∧ PostS c ⟨m, W, ox, lp⟩ own (forGo T B (ds.drop i) ρn φn) Dn Zn,
      ⟨ds.length, by simp, Nat.zero_le _, Z1, ρ, φ1, fun _ _ e => e, R0.more e1 w1, PostS.shift h e1.z⟩, ?_⟩
    rintro i k σn Hn ⟨rfl, hi, Zn, ρn, φn, kz, Rn, hP⟩
    obtain ⟨wk1, wk2⟩ := wk i Zn Hn φn ⟨kz, fun e => absurd e (by decide), Rn.ext.h⟩ Rn.wf
    by_cases hlt : i < ds.length
    · obtain ⟨d, hd⟩ : ∃ d, ds[i]? = some d := ⟨_, List.getElem?_eq_getElem hlt⟩
      obtain ⟨go, step⟩ := wk2 d hd
      rw [List.drop_eq_getElem_cons hlt] at hP
      have hdd : ds[i] = d := by
        rw [List.getElem?_eq_getElem hlt] at hd
        exact Option.some.inj hd
      rw [hdd] at hP
      refine .inr ⟨go, fun σ' H' => ∃ k', k' < ds.length - i ∧ (k' = ds.length - (i + 1) ∧ i + 1 ≤ ds.length ∧ ∃ Zn ρn φn, (∀ a o, Z1 a = some o → Zn a = some o) ∧ Rl c own Zn ρn φn σ' H' ∧ PostS c ⟨m, W, ox, lp⟩ own (forGo T B (ds.drop (i + 1)) ρn φn) Dn Zn), fun _ _ q => q, fun x Hx hx => ?_⟩
      obtain ⟨Zx, ex, wx, rx⟩ := step x Hx hx
      unfold forGo at hP
      cases hT : T d ρn with
      | none => rw [hT] at hP; exact hP.elim
      | some ρ1 =>
        rw [hT] at hP
        refine ⟨Zx, ρn, φn, d, ρ1, Rn.more ex wx, rx, hT, fun σ2 tr _ => ⟨Zx, ρ1, φn, tr Zx Hx φn Sub.refl (Rn.more ex wx), ?_⟩⟩
        have kzx : Sub Z1 Zx := Sub.trans kz ex.z
        have hP' : PostS c ⟨m, W, ox, lp⟩ own (match B ρ1 φn with
          | .nx ρ2 φ2 => forGo T B (ds.drop (i + 1)) ρ2 φ2
          | .ct ρ2 φ2 => forGo T B (ds.drop (i + 1)) ρ2 φ2
          | .bk ρ2 φ2 => .nx ρ2 φ2
          | .rt d φ2 => .rt d φ2
          | .ex x l ρ2 φ2 => .ex x l ρ2 φ2
          | .bad => .bad) Dn Zx := PostS.shift hP ex.z
        cases hB : B ρ1 φn with
        | nx ρ2 φ2 =>
          rw [hB] at hP'
          exact fun σ3 Z3 H3 k3 R3 => ⟨_, by omega, rfl, hlt, Z3, ρ2, φ2, kzx.trans k3, R3, hP'.shift k3⟩
        | ct ρ2 φ2 =>
          rw [hB] at hP'
          exact fun σ3 Z3 H3 k3 R3 => ⟨_, by omega, rfl, hlt, Z3, ρ2, φ2, kzx.trans k3, R3, hP'.shift k3⟩
        | bk ρ2 φ2 => rw [hB] at hP'; exact hP'
        | rt d φ2 => rw [hB] at hP'; exact hP'
        | ex x l ρ2 φ2 => rw [hB] at hP'; exact hP'
        | bad => rw [hB] at hP'; exact hP'
    · have hie : i = ds.length := by omega
      refine .inl ⟨wk1 hie, ?_⟩
      rw [hie, List.drop_length] at hP
      exact hP σn Zn Hn Sub.refl Rn
theorem s_while (n : Nat) {t : Expr} {body : List Stmt} {C : SB} {B : SS} (hp : PassesOwn (model X.prog X.w) X.A X.env X.xe) (ht : BX X c own W t C) (hb : SJs X c ⟨m, W, ox, own⟩ own own body B) (ho : ox own := by first | exact trivial | rfl) : SJ X c ⟨m, W, ox, lp⟩ own own (.While t body [] pos) (whGo C B n) := by
  refine PS.weak (ps_while hp ht hb) ?_
  rintro Dn σ H ⟨Z, ρ, φ, R0, h⟩
  refine ⟨fun k σn Hn => ∃ Zn ρn φn, Rl c own Zn ρn φn σn Hn ∧ PostS c ⟨m, W, ox, lp⟩ own (whGo C B k ρn φn) Dn Zn, ⟨n, Z, ρ, φ, R0, h⟩, ?_⟩
  rintro k σn Hn ⟨Zn, ρn, φn, Rn, hP⟩
  refine ⟨Zn, ρn, φn, Rn, ?_⟩
  cases k with
  | zero => exact hP.elim
  | succ k =>
    refine PostB.toS (w := ⟨m, W, ox, lp⟩) ho Rn hP fun b φ1 Z1 H1 e1 w1 h1 => ?_
    cases b with
    | false => exact h1 σn Z1 H1 Sub.refl (Rn.more e1 w1)
    | true =>
      rw [if_pos rfl]
      refine ⟨fun σ' H' => ∃ k', k' < k + 1 ∧ ∃ Zn ρn φn, Rl c own Zn ρn φn σ' H' ∧ PostS c ⟨m, W, ox, lp⟩ own (whGo C B k' ρn φn) Dn Zn, fun _ _ q => q, Z1, ρn, φ1, Rn.more e1 w1, ?_⟩
      have h1' : PostS c ⟨m, W, ox, lp⟩ own (match B ρn φ1 with
          | .nx ρ2 φ2 => whGo C B k ρ2 φ2
          | .ct ρ2 φ2 => whGo C B k ρ2 φ2
          | .bk ρ2 φ2 => .nx ρ2 φ2
          | .rt d φ2 => .rt d φ2
          | .ex x l ρ2 φ2 => .ex x l ρ2 φ2
          | .bad => .bad) Dn Z1 := h1
      cases hB : B ρn φ1 with
      | nx ρ2 φ2 =>
        rw [hB] at h1'
        exact fun σ3 Z3 H3 k3 R3 => ⟨k, Nat.lt_succ_self _, Z3, ρ2, φ2, R3, h1'.shift k3⟩
      | ct ρ2 φ2 =>
        rw [hB] at h1'
        exact fun σ3 Z3 H3 k3 R3 => ⟨k, Nat.lt_succ_self _, Z3, ρ2, φ2, R3, h1'.shift k3⟩
      | bk ρ2 φ2 => rw [hB] at h1'; exact h1'
      | rt d φ2 => rw [hB] at h1'; exact h1'
      | ex x l ρ2 φ2 => rw [hB] at h1'; exact h1'
      | bad => rw [hB] at h1'; exact h1'
end
end Pf

set_option Elab.async false
set_option linter.all false
set_option maxRecDepth 100000
set_option maxHeartbeats 4000000
namespace Pf
open PySem PySem.Spec PyProof.Rows L2

/-! ## a def by its body -/
/-- what a def with this body does: n parameters, s names -/
def runB (B : SS) (n s : Nat) : Fn := fun ds φ => match B (ds.map some ++ List.replicate (s - n) none) φ with
  | .nx _ φ' => .ok .non φ'
  | .rt d φ' => .ok d φ'
  | .ex x l _ φ' => .ex x l φ'
  | _ => .bad
theorem args_start {K : PySem.W.Frag} {f : Addr} {Z H : Hp} {pm : List Bool} {vs : List V} {ds : List D} {r : Nat} (rs : RArgs K f Z H pm vs ds) {i : Nat} {d : D} (h : (ds.map some ++ List.replicate r none)[i]? = some (some d)) :
    ∃ b v, pm[i]? = some b ∧ (vs.map some ++ List.replicate r none)[i]? = some (some v) ∧ Res (Wm b) K f H Z H v d := by
  obtain ⟨hl1, hl2⟩ := rs.lens
  by_cases hi : i < ds.length
  · rw [List.getElem?_append_left (by simpa using hi), List.getElem?_map] at h
    cases e : ds[i]? with
    | none => rw [e] at h; cases h
    | some x =>
      rw [e] at h
      cases h
      obtain ⟨b, y, h0, h1, h2⟩ := rs.at_ e
      refine ⟨b, y, h0, ?_, h2⟩
      rw [List.getElem?_append_left (by rw [List.length_map]; omega), List.getElem?_map, h1] <;> rfl
  · rw [List.getElem?_append_right (by simpa using hi), List.getElem?_replicate] at h
    split at h <;> cases h
/-- how the slots stand at the start -/
def ownS (pm : List Bool) (n : Nat) : List Ms := pm.map (fun b => if b = true then Ms.p else .s) ++ List.replicate (n - pm.length) .s
theorem ownS_get {pm : List Bool} {n i : Nat} {x : Ms} (h : (ownS pm n)[i]? = some x) : (∃ b, pm[i]? = some b ∧ x = if b = true then Ms.p else .s) ∨ (pm.length ≤ i ∧ x = .s) := by
  unfold ownS at h
  by_cases hi : i < pm.length
  · rw [List.getElem?_append_left (by simpa using hi), List.getElem?_map] at h
    cases e : pm[i]? with
    | none => rw [e] at h; cases h
    | some b => rw [e] at h; cases h; exact .inl ⟨b, rfl, rfl⟩
  · rw [List.getElem?_append_right (by simpa using hi), List.getElem?_replicate] at h
    split at h
    · cases h; exact .inr ⟨by omega, rfl⟩
    · cases h
theorem rep_s {n i : Nat} {x : Ms} (hx : x ≠ .s) : (List.replicate n Ms.s)[i]? ≠ some x := by
  rw [List.getElem?_replicate]
  split
  · intro h; exact hx (Option.some.inj h).symm
  · intro h; cases h
theorem ownS_no {pm : List Bool} {n i : Nat} : (ownS pm n)[i]? ≠ some .o := by
  intro h
  rcases ownS_get h with ⟨b, _, e⟩ | ⟨_, e⟩
  · cases b <;> cases e
  · cases e
section
variable {P : Program} {w : World} {K : PySem.W.Frag} {mg : Str → Option Value} {base : Heap}
theorem fn_sem {cls : Str → Option (Addr × List Str)} {x qual : Str} {st : Stmt} {f : Addr} {fd : FuncData} {N ps : List Str} {k : Nat} (F : Fun K x qual st f fd) (S : FnScope N ps (defScope st)) (pm : List Bool) (hpm : pm.length = ps.length) (m : Md) (B : SS) {on : List Ms}
    (D : ∀ (cdv : Value) (A : Around) (outer : List Env) (s : Shared) (H : Hp) (E : XK) (cf : Addr) (cZ cH : Hp) (s0 : L2.St) (r0 : En), Room k (A.deeper (envOfC qual (defScope st) s.heap.objs.size f cdv)) →
      SJs (cxOf (L2.CX P w) P w K mg base N qual (defScope st) f cdv A outer s H E) ⟨K, cf, cZ, cH, cls, s0, r0⟩ ⟨m, fun cls d _ H => E cls d H, fun _ => True, []⟩ (ownS pm N.length) on (defBody st) B) :
    FnOk P w K mg base (L2.CX P w) (k + 1) f fd ps (spF cls K pm m (runB B ps.length N.length)) := by
  refine F.okX S (fun vs H Q E h => ?_) (fun cdv A outer s H vs Q E hr h => ?_)
  · obtain ⟨f, Z, ds, φ, _, rs, _⟩ := h
    rw [rs.lens.1, hpm]
  · obtain ⟨f, Z, ds, φ, wf, rs, h⟩ := h
    have hl : ds.length = ps.length := by rw [rs.lens.2, hpm]
    have hv : vs.length = ps.length := by rw [rs.lens.1, hpm]
    have hst : L2.start N vs = vs.map some ++ List.replicate (N.length - ps.length) none := by
      unfold L2.start
      rw [hv]
    refine ⟨_, D cdv A outer s H E f Z H (L2.start N vs) (ds.map some ++ List.replicate (N.length - ps.length) none) hr, Z, ds.map some ++ List.replicate (N.length - ps.length) none, φ, ⟨wf, Ext.refl, ?_, fun i d h1 _ h3 => ?_, fun i d _ h2 => absurd h2 ownS_no, fun i j a d e _ h1 => absurd h1 ownS_no, fun i d h1 h2 => ⟨h1, rfl⟩, fun i d h1 h2 => ?_⟩, ?_⟩
    · rw [hst]
      simp only [List.length_append, List.length_map, List.length_replicate]
      rw [hv, hl]
    · rw [hst]
      obtain ⟨b, v, e1, e2, r⟩ := args_start rs h1
      refine ⟨v, e2, ?_⟩
      cases b with
      | false => exact r
      | true =>
        refine absurd ?_ h3
        unfold ownS
        rw [List.getElem?_append_left (by rw [List.length_map]; exact (List.getElem?_eq_some_iff.mp e1).1), List.getElem?_map, e1]
        rfl
    · rw [hst]
      obtain ⟨b, v, e1, e2, r⟩ := args_start rs h1
      refine ⟨v, e2, ?_⟩
      cases b with
      | false => exact .inl r
      | true => exact r
    · unfold runB at h
      cases e : B (ds.map some ++ List.replicate (N.length - ps.length) none) φ with
      | nx ρ φ' => rw [e] at h; exact fun σ Z' H' _ R0 => h .non Z' H' R0.ext R0.wf (Res.of_flat .non rfl)
      | rt d φ' => rw [e] at h; exact fun v Z' H' e' w' r => h v Z' H' e' w' r
      | ex y l ρ φ' => rw [e] at h; exact fun cl dx σ Z' H' ow _ R0 r => h cl dx Z' H' R0.ext R0.wf r
      | bk ρ φ' => rw [e] at h; exact h.elim
      | ct ρ φ' => rw [e] at h; exact h.elim
      | bad => rw [e] at h; exact h.elim
theorem cal_of {cls : Str → Option (Addr × List Str)} {x : Str} {k : Nat} {pm : List Bool} {m : Md} {F : Fn} {f : Addr} {fd : FuncData} {ps : List Str} (h1 : mg x = some (.ref f)) (h2 : PySem.W.keepIn K (.ref f) = true) (h3 : Binds K fd ps []) (h4 : FnOk P w K mg base (L2.CX P w) k f fd ps (spF cls K pm m F)) :
    Cal P w K mg base cls x k pm m F := ⟨⟨f, fd, ps, h1, h2, h3, h4⟩⟩
end

/-- a statement's reading where what is fixed is chosen later -/
theorem PSs.later {X : Cx} {sts : List Stmt} {ι : Type} {t : ι → TS} (h : ∀ i, PSs X sts (t i)) : PSs X sts (fun D σ H => ∃ i, t i D σ H) := ⟨fun pins s σ H D I ⟨i, q⟩ => (h i).run pins s σ H D I q⟩

/-! ## the feed -/
def Fd.step (φ : Fd) : Fd :=
  if φ.told = 0 ∧ φ.pos < φ.cells.length then
    let cell : Int := ((φ.cells.getD φ.pos.toNat 0).natAbs : Nat)
    if cell ≥ 1000000000000000000 then { φ with pos := φ.pos + 1, told := cell }
    else { φ with pos := φ.pos + 1, st := (φ.st * 48271 + cell * 69621 + (φ.pos + 1)) % 2147483647 }
  else φ
/-- a drawn number, and the feed behind it -/
def Fd.draw (φ : Fd) (many : Int) : Int × Fd :=
  let ψ := φ.step
  if ψ.told > 0 then (ψ.told % many, { ψ with told := ψ.told / many })
  else
    let s : Int := (ψ.st * 16807 + 12345) % 2147483647
    ((s * s + s) % 2147483629 / 11 % many, { ψ with st := s })
def drawF : Fn := fun ds φ => match ds with
  | [.feed, .int m] => if (0 < m ∧ m < 1073741824) ∧ 0 ≤ φ.told then .ok (.int (φ.draw m).1) (φ.draw m).2 else .bad
  | _ => .bad
theorem Fd.step_ok {φ : Fd} (h : φ.Ok) : φ.step.Ok := by
  obtain ⟨n, a0, a1, t0, s0, s1⟩ := h
  unfold Fd.step
  split
  · rename_i hc
    dsimp only
    split
    · exact ⟨n, by show 0 ≤ φ.pos + 1; omega, by show φ.pos + 1 ≤ (φ.cells.length : Int); omega, by show (0 : Int) ≤ ((φ.cells.getD φ.pos.toNat 0).natAbs : Nat); omega, s0, s1⟩
    · exact ⟨n, by show 0 ≤ φ.pos + 1; omega, by show φ.pos + 1 ≤ (φ.cells.length : Int); omega, t0, Int.emod_nonneg _ (by decide), Int.emod_lt_of_pos _ (by decide)⟩
  · exact ⟨n, a0, a1, t0, s0, s1⟩
theorem Fd.draw_ok {φ : Fd} (h : φ.Ok) {m : Int} (hm : 0 < m) : (φ.draw m).2.Ok := by
  obtain ⟨n, a0, a1, t0, s0, s1⟩ := Fd.step_ok h
  unfold Fd.draw
  dsimp only
  split
  · exact ⟨n, a0, a1, Int.ediv_nonneg t0 (Int.le_of_lt hm), s0, s1⟩
  · exact ⟨n, a0, a1, t0, Int.emod_nonneg _ (by decide), Int.emod_lt_of_pos _ (by decide)⟩
theorem Fd.draw_range (φ : Fd) {m : Int} (hm : 0 < m) : 0 ≤ (φ.draw m).1 ∧ (φ.draw m).1 < m := by
  unfold Fd.draw
  dsimp only
  split
  · exact ⟨Int.emod_nonneg _ (by omega), Int.emod_lt_of_pos _ hm⟩
  · exact ⟨Int.emod_nonneg _ (by omega), Int.emod_lt_of_pos _ hm⟩
/-! ## the law's own def -/
def spFeed (K : PySem.W.Frag) : Sp := fun vs H Q _ => ∃ (a : Addr) (ns : List Int), vs = [.ref a] ∧ SqL K H a (ns.map V.int) ∧
  ∀ s p, H s = none → H p = none → p ≠ s → Q (.ref p) (upd (upd H s (.lst (ns.map V.int))) p (.lst [.ref s, .int 0, .int 0, .int 1]))
def spLaw (K : PySem.W.Frag) : Sp := fun vs H Q _ => ∃ (a : Addr) (ns : List Int), vs = [.ref a] ∧ SqL K H a (ns.map V.int) ∧ ns.length ≤ 63 ∧ ∀ H', Q (.bl true) H'
section
variable {P : Program} {w : World} {K : PySem.W.Frag} {mg : Str → Option Value} {base : Heap}
/-- the law's body behind its first row, feed = _law_feed(script): j is feed's slot -/
theorem law_sem {cls : Str → Option (Addr × List Str)} {qual x : Str} {st st0 : Stmt} {rest : List Stmt} {f : Addr} {fd : FuncData} {N : List Str} {k j : Nat} (F : Fun K x qual st f fd) (S : FnScope N ["script"] (defScope st)) (m : Md) (B : SS) {on : List Ms}
    (hb : defBody st = st0 :: rest) (hj : 0 < j) (hjn : j < N.length)
    (D0 : ∀ (cdv : Value) (A : Around) (outer : List Env) (s : Shared) (H : Hp) (E : XK), Room k (A.deeper (envOfC qual (defScope st) s.heap.objs.size f cdv)) →
      PS (cxOf (L2.CX P w) P w K mg base N qual (defScope st) f cdv A outer s H E) st0 (tAsg (tCall (spFeed K) [] E0 (tCons (tVar 0) tNil)) (gName j)))
    (D : ∀ (cdv : Value) (A : Around) (outer : List Env) (s : Shared) (H : Hp) (E : XK) (cf : Addr) (cZ cH : Hp) (s0 : L2.St) (r0 : En), Room k (A.deeper (envOfC qual (defScope st) s.heap.objs.size f cdv)) →
      SJs (cxOf (L2.CX P w) P w K mg base N qual (defScope st) f cdv A outer s H E) ⟨K, cf, cZ, cH, cls, s0, r0⟩ ⟨m, fun cls d _ H => E cls d H, fun _ => True, []⟩ (List.replicate N.length .s) on rest B)
    (hB : ∀ φ : Fd, φ.Ok → ∃ φ', B ((List.replicate N.length none).set j (some .feed)) φ = .rt (.bl true) φ') :
    FnOk P w K mg base (L2.CX P w) (k + 1) f fd ["script"] (spLaw K) := by
  refine F.okX S (fun vs H Q E h => ?_) (fun cdv A outer s H vs Q E hr h => ?_)
  · obtain ⟨a, ns, rfl, _⟩ := h
    rfl
  · obtain ⟨a, ns, rfl, hs, hl, q⟩ := h
    have D1 := PSs.later (ι := Addr × Hp × Hp) fun i => D cdv A outer s H E i.1 i.2.1 i.2.2 [] [] hr
    refine ⟨_, by rw [hb]; exact pss_cons (D0 cdv A outer s H E hr) D1, ?_⟩
    have h0 : (L2.start N [V.ref a])[0]? = some (some (.ref a)) := rfl
    refine ⟨.ref a, h0, a, ns, rfl, hs, fun t p ht hp hne => ?_⟩
    have hpt : (upd (upd H t (.lst (ns.map V.int))) p (.lst [.ref t, .int 0, .int 0, .int 1])) p = some (.lst [.ref t, .int 0, .int 0, .int 1]) := upd_same
    have htt : (upd (upd H t (.lst (ns.map V.int))) p (.lst [.ref t, .int 0, .int 0, .int 1])) t = some (.lst (ns.map V.int)) := by
      rw [upd_ne (Ne.symm hne)]
      exact upd_same
    generalize upd (upd H t (.lst (ns.map V.int))) p (.lst [.ref t, .int 0, .int 0, .int 1]) = H1 at hpt htt
    have ok0 : Fd.Ok ⟨ns, 0, 0, 1⟩ := ⟨hl, Int.le_refl _, Int.natCast_nonneg _, Int.le_refl _, by show (0 : Int) ≤ 1; decide, by show (1 : Int) < 2147483647; decide⟩
    have wf : Wf K p (fun b => if b = t then some (.lst (ns.map V.int)) else none) H1 ⟨ns, 0, 0, 1⟩ := by
      refine ⟨fun b o e => ?_, if_neg hne, ⟨(t, _), .inr ⟨if_pos rfl, rfl⟩, hpt⟩, fun _ => ok0⟩
      by_cases hb : b = t
      · rw [if_pos hb] at e; cases e; rw [hb]; exact htt
      · rw [if_neg hb] at e; cases e
    obtain ⟨φ', hφ⟩ := hB ⟨ns, 0, 0, 1⟩ ok0
    refine ⟨(p, (fun b => if b = t then some (.lst (ns.map V.int)) else none), H1), (fun b => if b = t then some (.lst (ns.map V.int)) else none), (List.replicate N.length (none : Option Pf.D)).set j (some .feed), ⟨ns, 0, 0, 1⟩, ⟨wf, Ext.refl, ?_, fun i d h1 _ _ => ?_, fun i d _ h2 => absurd h2 (rep_s (by decide)), fun i j a d e _ h1 => absurd h1 (rep_s (by decide)), fun i d _ h2 => ?_, fun i d _ h2 => absurd h2 (rep_s (by decide))⟩, ?_⟩
    · unfold L2.start
      simp only [List.length_set, List.length_append, List.length_map, List.length_replicate, List.length_cons, List.length_nil]
      omega
    · rcases get_set h1 with ⟨rfl, e⟩ | ⟨hi, e⟩
      · cases e
        refine ⟨.ref p, List.getElem?_set_self ?_, .feed⟩
        unfold L2.start
        simp only [List.length_append, List.length_map, List.length_replicate, List.length_cons, List.length_nil]
        omega
      · rw [List.getElem?_replicate] at e
        split at e <;> cases e
    · rcases h2 with h2 | h2
      · exact absurd h2 (rep_s (by decide))
      · exact absurd h2 (rep_s (by decide))
    · rw [hφ]
      intro v Z' H' _ _ r
      have hv : v = .bl true := Res.bl r
      rw [hv]
      exact q H'
end
section
variable {X : Cx}
/-- xs[i] by values, as a += reads it -/
theorem get_lst : PGet X (fun o i H Q => ∃ p xs k v, o = .ref p ∧ i = .int k ∧ 0 ≤ k ∧ k < 2 ^ 63 ∧ SqL X.K H p xs ∧ xs[k.toNat]? = some v ∧ Q v H) := by
  intro pins s σ H o i ov iv Q I r1 r2 h
  obtain ⟨p, xs, k, v, rfl, rfl, h0, h1, hq, he, q⟩ := h
  cases r1
  obtain ⟨t, rfl⟩ := r2
  obtain ⟨its, r, pl, hz⟩ := I.list hq
  obtain ⟨u, eu, ru⟩ := r.get he
  exact wpAny_getItem_list pl.isList h0 h1 (by simpa using eu) ⟨v, H, I, ru, q⟩
end
end Pf

set_option Elab.async false
set_option linter.all false
set_option maxRecDepth 100000
set_option maxHeartbeats 4000000
namespace Pf
open PySem PySem.Spec PyProof.Rows L2

/-! ## drawing from the feed: the body of the law's own draw, read once -/
def ixf (K : PySem.W.Frag) (k : Int) : TE := tOp (rIxL K) (tVar 0) (tC (V.int k))
def rgI : R2 := rI0 fun i j => V.int (i + j)
def rmI : R2 := rI CMul fun i j => V.int (i * j)
def reI : R2 := rI (fun _ j => 0 < j) fun i j => V.int (i % j)
def rdI : R2 := rI CDiv fun i j => V.int (i / j)
def rIntC : List V → Hp → VK → Prop := fun xs H Q => (∃ i, xs = [V.int i] ∧ Q (V.int i) H) ∨ ∃ k, xs = [V.bl k] ∧ Q (V.int (if k = true then 1 else 0)) H
def tInt (t : TE) : TE := tCB rIntC (tCons t tNil)
def rGet (K : PySem.W.Frag) : V → V → Hp → VK → Prop := fun o i H Q => ∃ p xs k v, o = .ref p ∧ i = .int k ∧ 0 ≤ k ∧ k < 2 ^ 63 ∧ SqL K H p xs ∧ xs[k.toNat]? = some v ∧ Q v H
def tDrawA (K : PySem.W.Frag) : TS := tIfS (tAnd (tTest (tOp rEq (ixf K 2) (tC (.int 0)))) (tTest (tOp (rI0 fun i j => V.bl (decide (i < j))) (ixf K 1) (tCB (fun xs H Q => ∃ p ys, xs = [.ref p] ∧ (SqL K H p ys ∨ SqT K H p ys) ∧ Q (.int ys.length) H) (tCons (ixf K 0) tNil)))))
  (tSeq (tAsg (tCB (fun xs H Q => ∃ i, xs = [.int i] ∧ Q (.int (if i < 0 then -i else i)) H) (tCons (tInt (tOp (rIxL K) (ixf K 0) (ixf K 1))) tNil)) (gName 2))
    (tSeq (tAugS (tVar 0) (tC (.int 1)) (tC (.int 1)) (rGet K) (ipI fun i j => i + j) rSetL)
      (tIfS (tTest (tOp (rI0 fun i j => V.bl (decide (j ≤ i))) (tVar 2) (tOp (rI CPow fun i j => V.int (i ^ j.toNat)) (tC (.int 10)) (tC (.int 18)))))
        (tAsg (tVar 2) (L2.gSub (tVar 0) (tC (.int 2)) rSetL))
        (tAsg (tOp reI (tInt (tOp rgI (tOp rgI (tOp rmI (ixf K 3) (tC (.int 48271))) (tOp rmI (tVar 2) (tC (.int 69621)))) (ixf K 1))) (tC (.int 2147483647))) (L2.gSub (tVar 0) (tC (.int 3)) rSetL)))))
  tNext
def tDrawB (K : PySem.W.Frag) : TS := tSeq (tIfS (tTest (tOp (rI0 fun i j => V.bl (decide (j < i))) (ixf K 2) (tC (.int 0))))
    (tSeq (tAsg (tOp reI (tInt (ixf K 2)) (tVar 1)) (gName 3)) (tSeq (tAsg (tOp rdI (ixf K 2) (tVar 1)) (L2.gSub (tVar 0) (tC (.int 2)) rSetL)) (tRet (tVar 3)))) tNext)
  (tSeq (tAsg (tOp reI (tInt (tOp rgI (tOp rmI (ixf K 3) (tC (.int 16807))) (tC (.int 12345)))) (tC (.int 2147483647))) (L2.gSub (tVar 0) (tC (.int 3)) rSetL))
    (tSeq (tAsg (tOp reI (tInt (tOp rgI (tOp rmI (ixf K 3) (ixf K 3)) (ixf K 3))) (tC (.int 2147483629))) (gName 4))
      (tRet (tOp reI (tOp rdI (tVar 4) (tC (.int 11))) (tVar 1)))))
section
variable {K : PySem.W.Frag} {f s : Addr} {σ : L2.St} {H : Hp} {xs : List V} {Q : VK}
theorem ixr {k : Nat} {v : V} (h0 : σ[0]? = some (some (.ref f))) (hf : H f = some (.lst xs)) (hx : xs[k]? = some v) (q : Q v H) : ixf K (k : Int) σ H Q :=
  ⟨_, h0, f, xs, k, v, rfl, rfl, SqL.of hf, atI_nat hx, q⟩
theorem tInt_of {t : TE} {i : Int} (h : t σ H fun v H' => v = .int i ∧ Q (.int i) H') (mono : ∀ Q Q' : VK, (∀ v H, Q v H → Q' v H) → t σ H Q → t σ H Q') : tInt t σ H Q :=
  mono _ _ (fun v H' ⟨e, q⟩ => .inl ⟨i, by rw [e], q⟩) h
theorem ifT {b : Bool} {A B : Prop} (hb : b = true) (h : A) : if b = true then A else B := by
  rw [if_pos hb]
  exact h
theorem ifF {b : Bool} {A B : Prop} (hb : b = false) (h : B) : if b = true then A else B := by
  rw [if_neg (by rw [hb]; decide)]
  exact h
/-- the feed's cell as the record has it -/
abbrev fdL (s : Addr) (φ : Fd) : List V := [.ref s, .int φ.pos, .int φ.told, .int φ.st]
theorem pow18 : (10 : Int) ^ (18 : Int).toNat = 1000000000000000000 := by decide
/-- the first half: a cell of the script comes in -/
theorem drawA_read {φ : Fd} {m : Int} {D : Ends} (ok : φ.Ok) (hs : H s = some (.lst (φ.cells.map V.int))) (hf : H f = some (.lst (fdL s φ))) (hsf : s ≠ f)
    (q : ∀ y, D.nx [some (.ref f), some (.int m), y, none, none] (upd H f (.lst (fdL s φ.step)))) : tDrawA K D [some (.ref f), some (.int m), none, none, none] H := by
  obtain ⟨n, a0, a1, t0, s0, s1⟩ := ok
  have hself : upd H f (.lst (fdL s φ)) = H := by
    funext b
    by_cases hb : b = f
    · rw [hb, upd_same, hf]
    · rw [upd_ne hb]
  show ixf K 2 _ _ _
  refine ixr (k := 2) rfl hf rfl ⟨rfl, ?_⟩
  refine ⟨_, rfl, ?_⟩
  by_cases ht : φ.told = 0
  · refine ifT (by rw [ht]; decide) ?_
    refine ixr (k := 1) rfl hf rfl (ixr (k := 0) rfl hf rfl ⟨s, _, rfl, .inl (SqL.of hs), _, _, rfl, rfl, _, rfl, ?_⟩)
    rw [List.length_map]
    by_cases hp : φ.pos < φ.cells.length
    · refine ifT (decide_eq_true hp) ?_
      obtain ⟨j, hj⟩ : ∃ j : Nat, φ.pos = j := ⟨φ.pos.toNat, by omega⟩
      have hjl : j < φ.cells.length := by omega
      have hget : φ.cells.getD φ.pos.toNat 0 = φ.cells[j] := by
        rw [hj, Int.toNat_natCast, List.getD_eq_getElem?_getD, List.getElem?_eq_getElem hjl] <;> rfl
      have hst : φ.step = if ((φ.cells[j].natAbs : Nat) : Int) ≥ 1000000000000000000 then { φ with pos := φ.pos + 1, told := ((φ.cells[j].natAbs : Nat) : Int) } else { φ with pos := φ.pos + 1, st := (φ.st * 48271 + ((φ.cells[j].natAbs : Nat) : Int) * 69621 + (φ.pos + 1)) % 2147483647 } := by
        unfold Fd.step
        rw [if_pos ⟨ht, hp⟩]
        dsimp only
        rw [hget]
      have habs : (if φ.cells[j] < 0 then -φ.cells[j] else φ.cells[j]) = ((φ.cells[j].natAbs : Nat) : Int) := by split <;> omega
      refine ixr (k := 0) rfl hf rfl (ixr (k := 1) rfl hf rfl ⟨s, _, φ.pos, .int φ.cells[j], rfl, rfl, SqL.of hs, ?_, .inl ⟨_, rfl, ⟨_, rfl, ?_⟩⟩⟩)
      · rw [hj]
        exact atI_nat (by rw [List.getElem?_map, List.getElem?_eq_getElem hjl] <;> rfl)
      · rw [habs]
        generalize ((φ.cells[j].natAbs : Nat) : Int) = cell at hst
        -- feed[1] += 1
        refine ⟨.ref f, rfl, f, _, 1, .int φ.pos, rfl, rfl, by decide, by decide, SqL.of hf, rfl, _, _, rfl, rfl, f, fdL s φ, 1, 1, rfl, rfl, hf, rfl, ?_⟩
        have hf1 : upd H f (.lst ((fdL s φ).set 1 (.int (φ.pos + 1)))) f = some (.lst [.ref s, .int (φ.pos + 1), .int φ.told, .int φ.st]) := upd_same
        refine ⟨.int cell, rfl, _, _, rfl, rfl, ⟨by decide, by decide, by decide⟩, _, _, rfl, rfl, _, rfl, ?_⟩
        rw [pow18]
        by_cases hc : (1000000000000000000 : Int) ≤ cell
        · refine ifT (decide_eq_true hc) ?_
          rw [if_pos hc] at hst
          refine ⟨.int cell, rfl, .ref f, rfl, f, _, 2, 2, rfl, rfl, hf1, rfl, ?_⟩
          rw [upd_upd]
          have := q (some (.int cell))
          rw [hst] at this
          exact this
        · refine ifF (decide_eq_false hc) ?_
          rw [if_neg hc] at hst
          refine ixr (k := 3) rfl hf1 rfl ⟨_, _, rfl, rfl, .inl (by omega), .int cell, rfl, _, _, rfl, rfl, .inr (by omega), _, _, rfl, rfl, ?_⟩
          refine ixr (k := 1) rfl hf1 rfl ⟨_, _, rfl, rfl, .inl ⟨_, rfl, _, _, rfl, rfl, (by decide : (0 : Int) < 2147483647), ?_⟩⟩
          refine ⟨.ref f, rfl, f, _, 3, 3, rfl, rfl, hf1, rfl, ?_⟩
          rw [upd_upd]
          have := q (some (.int cell))
          rw [hst] at this
          exact this
    · refine ifF (decide_eq_false hp) ?_
      have hst : φ.step = φ := by unfold Fd.step; rw [if_neg fun h => hp h.2]
      have := q none
      rw [hst, hself] at this
      exact this
  · have e : decide (V.int φ.told = V.int 0) = false := decide_eq_false fun h => ht (V.int.inj h)
    refine ifF e ?_
    have hst : φ.step = φ := by unfold Fd.step; rw [if_neg fun h => ht h.1]
    have := q none
    rw [hst, hself] at this
    exact this
/-- the second half: a number is drawn -/
theorem drawB_read {φ : Fd} {m : Int} {D : Ends} {y : Option V} (ok : φ.Ok) (hm : 0 < m) (hm2 : m < 1073741824) (hf : H f = some (.lst (fdL s φ)))
    (q : D.rt (.int (if φ.told > 0 then φ.told % m else ((φ.st * 16807 + 12345) % 2147483647 * ((φ.st * 16807 + 12345) % 2147483647) + (φ.st * 16807 + 12345) % 2147483647) % 2147483629 / 11 % m))
      (upd H f (.lst (fdL s (if φ.told > 0 then { φ with told := φ.told / m } else { φ with st := (φ.st * 16807 + 12345) % 2147483647 }))))) : tDrawB K D [some (.ref f), some (.int m), y, none, none] H := by
  obtain ⟨n, a0, a1, t0, s0, s1⟩ := ok
  show ixf K 2 _ _ _
  refine ixr (k := 2) rfl hf rfl ⟨_, _, rfl, rfl, _, rfl, ?_⟩
  by_cases ht : φ.told > 0
  · refine ifT (decide_eq_true ht) ?_
    rw [if_pos ht, if_pos ht] at q
    refine ixr (k := 2) rfl hf rfl (.inl ⟨_, rfl, .int m, rfl, _, _, rfl, rfl, hm, ?_⟩)
    refine ixr (k := 2) rfl hf rfl ⟨.int m, rfl, _, _, rfl, rfl, ⟨hm, hm2⟩, .ref f, rfl, f, _, 2, 2, rfl, rfl, hf, rfl, _, rfl, q⟩
  · refine ifF (decide_eq_false ht) ?_
    rw [if_neg ht, if_neg ht] at q
    refine ixr (k := 3) rfl hf rfl ⟨_, _, rfl, rfl, .inl (by omega), _, _, rfl, rfl, .inl ⟨_, rfl, _, _, rfl, rfl, (by decide : (0 : Int) < 2147483647), ?_⟩⟩
    have b0 : 0 ≤ (φ.st * 16807 + 12345) % 2147483647 := Int.emod_nonneg _ (by decide)
    have b1 : (φ.st * 16807 + 12345) % 2147483647 < 2147483647 := Int.emod_lt_of_pos _ (by decide)
    refine ⟨.ref f, rfl, f, _, 3, 3, rfl, rfl, hf, rfl, ?_⟩
    have hf1 : upd H f (.lst ((fdL s φ).set 3 (.int ((φ.st * 16807 + 12345) % 2147483647)))) f = some (.lst [.ref s, .int φ.pos, .int φ.told, .int ((φ.st * 16807 + 12345) % 2147483647)]) := upd_same
    refine ixr (k := 3) rfl hf1 rfl (ixr (k := 3) rfl hf1 rfl ⟨_, _, rfl, rfl, .inl (by omega), ?_⟩)
    refine ixr (k := 3) rfl hf1 rfl ⟨_, _, rfl, rfl, .inl ⟨_, rfl, _, _, rfl, rfl, (by decide : (0 : Int) < 2147483629), ?_⟩⟩
    exact ⟨_, rfl, _, _, rfl, rfl, ⟨by decide, by decide⟩, .int m, rfl, _, _, rfl, rfl, hm, q⟩
/-- the whole body keeps the promise -/
theorem draw_read {cls : Str → Option (Addr × List Str)} {N : List Str} {vs : List V} {E : XK} (hN : N.length = 5) (h : spF cls K [false, false] .s drawF vs H Q E) : tSeq (tDrawA K) (tDrawB K) { nx := fun _ H' => Q .non H', rt := Q } (L2.start N vs) H := by
  obtain ⟨f, Z, ds, φ, wf, rs, h⟩ := h
  obtain ⟨hl1, hl2⟩ := rs.lens
  match ds, vs, hl1, hl2, rs, h with
  | [d, e], [x, y], _, _, rs, h =>
    cases d with
    | feed =>
      cases e with
      | int m =>
        have h' : (match (if (0 < m ∧ m < 1073741824) ∧ 0 ≤ φ.told then O.ok (.int (φ.draw m).1) (φ.draw m).2 else .bad : O D) with
          | .ok d φ' => ∀ v Z' H', Ext f Z H Z' H' → Wf K f Z' H' φ' → Res .s K f H Z' H' v d → Q v H'
          | .ex x l φ' => ∀ cl dx Z' H', Ext f Z H Z' H' → Wf K f Z' H' φ' → XRep ⟨K, f, Z, H, cls, [], []⟩ Z' H' x l cl dx → E cl dx H'
          | .bad => False) := h
        by_cases hmm : (0 < m ∧ m < 1073741824) ∧ 0 ≤ φ.told
        · rw [if_pos hmm] at h'
          obtain ⟨hm, htd⟩ := hmm
          · obtain ⟨r1, r2, _⟩ := rs
            · obtain rfl := Res.feed (m := .s) (H0 := H) (H := H) r1
              obtain rfl := Res.int (m := .s) (H0 := H) (H := H) r2
              have wok := wf.ok htd
              obtain ⟨⟨s, so⟩, hs, hf⟩ := wf.feed
              rcases hs with ⟨hs, _⟩ | ⟨hs, hso⟩
              · exact absurd hs (by omega)
              simp only at hs hso hf
              rw [hso] at hf
              have hsf : s ≠ f := fun e => by rw [e, wf.zf] at hs; cases hs
              have hst : L2.start N [.ref f, .int m] = [some (.ref f), some (.int m), none, none, none] := by
                unfold L2.start
                rw [hN] <;> rfl
              rw [hst]
              refine drawA_read wok (wf.sub _ _ hs) hf hsf fun y => ?_
              refine drawB_read (φ := φ.step) (Fd.step_ok wok) hm.1 hm.2 upd_same ?_
              rw [upd_upd]
              have e1 : (φ.draw m).1 = (if φ.step.told > 0 then φ.step.told % m else ((φ.step.st * 16807 + 12345) % 2147483647 * ((φ.step.st * 16807 + 12345) % 2147483647) + (φ.step.st * 16807 + 12345) % 2147483647) % 2147483629 / 11 % m) := by
                unfold Fd.draw
                dsimp only
                split <;> rfl
              have e2 : (φ.draw m).2 = (if φ.step.told > 0 then { φ.step with told := φ.step.told / m } else { φ.step with st := (φ.step.st * 16807 + 12345) % 2147483647 }) := by
                unfold Fd.draw
                dsimp only
                split <;> rfl
              have hcells : (φ.draw m).2.cells = φ.cells := by
                rw [e2]
                have : φ.step.cells = φ.cells := by
                  unfold Fd.step
                  split
                  · dsimp only; split <;> rfl
                  · rfl
                split <;> exact this
              rw [← e1, ← e2]
              have ok2 := Fd.draw_ok wok hm.1
              have up : ∀ b u, b ≠ f → H b = some u → upd H f (.lst (fdL s (φ.draw m).2)) b = some u := fun b u hb q => by rw [upd_ne hb]; exact q
              refine h' _ Z _ ⟨fun _ _ q => q, fun b u hb q => up b u hb q, fun b q => ?_, fun _ _ q => q, fun o e => ?_⟩ ⟨fun b u q => up b u (fun e => by rw [e, wf.zf] at q; cases q) (wf.sub b u q), wf.zf, ⟨(s, _), .inr ⟨by rw [hcells]; exact hs, rfl⟩, upd_same⟩, fun _ => ok2⟩ (Rep.int _)
              · by_cases hb : b = f
                · rw [hb, upd_same]; simp
                · rw [upd_ne hb]; exact q
              · rw [hf] at e
                cases e
                exact ⟨_, upd_same, .inr ⟨_, _, _, rfl, rfl⟩⟩
        · rw [if_neg hmm] at h'
          exact h'.elim
      | _ => exact h.elim
    | _ => exact h.elim
end
end Pf

set_option Elab.async false
set_option linter.all false
set_option maxRecDepth 100000
set_option maxHeartbeats 4000000
namespace Pf
open PySem PySem.Spec PyProof.Rows L2

/-! ## a op b op c -/
def eCh (g g' : D → D → Option D) (A B C : SX) : SX := fun ρ φ => (A ρ φ).bind fun d φ1 => (B ρ φ1).bind fun e φ2 => match g d e with
  | some (.bl true) => (C ρ φ2).bind fun z φ3 => ofO (g' e z) φ3
  | some (.bl false) => .ok (.bl false) φ2
  | _ => .bad
section
variable {X : Cx} {c : Ct} {own : List Ms} {m : Md} {W : WX} {pos : Pos} {a b d : Expr} {A B C : SX}
theorem ch_core {r r' : R2} {g g' : D → D → Option D} (hg : OpG r .o c g) (hg' : OpG r' .o c g') {σ : L2.St} {H : Hp} {Q : VK} (h : tE c own .o W (eCh g g' A B C) σ H Q) :
    tChain r r' (tE c own .p W A) (tE c own .p W B) (tE c own .p W C) σ H Q := by
  obtain ⟨Z, ρ, φ, R, h⟩ := h
  refine ⟨Z, ρ, φ, R, Post.bindE h fun d φ1 x Z1 H1 e1 w1 r1 h1 => ?_⟩
  refine ⟨Z1, ρ, φ1, R.more e1 w1, Post.bindE h1 fun e φ2 y Z2 H2 e2 w2 r2 h2 => ?_⟩
  have r2' : Res .p c.K c.f H2 Z2 H2 y e := r2
  have R2 := (R.more e1 w1).more e2 w2
  cases hz : g d e with
  | none => simp only [hz] at h2; exact h2.elim
  | some z =>
    cases z with
    | bl k =>
      -- the first answer
      refine hg Z2 H2 φ2 x y d e (.bl k) W0 σ _ w2 (show Res .p c.K c.f H2 Z2 H2 x d from r1.pmono e2) r2' hz ?_
      intro v Z3 H3 e3 w3 r3
      refine ⟨k, r3.bl, ?_⟩
      cases k with
      | false =>
        simp only [hz] at h2
        rw [if_neg (by decide)]
        exact h2 _ Z3 H3 e3 w3 (Res.of_flat (.bl false) rfl)
      | true =>
        simp only [hz] at h2
        rw [if_pos rfl]
        refine ⟨Z3, ρ, φ2, R2.more e3 w3, Post.bindE (h2.shift e3) fun t φ4 u Z4 H4 e4 w4 r4 h4 => ?_⟩
        obtain ⟨z', hz', h5⟩ := ofO_ok (E := fun o => Post c .o W o σ Z4 H4 Q) h4 fun z => z
        exact hg' Z4 H4 φ4 y u e t z' W σ Q w4 (show Res .p c.K c.f H4 Z4 H4 y e from (r2'.pmono e3).pmono e4) (show Res .p c.K c.f H4 Z4 H4 u t from r4) hz' h5
    | _ => simp only [hz] at h2; exact h2.elim
theorem x_ch {op op' : CmpOp} {r r' : R2} {g g' : D → D → Option D} (ho : OpR X (compareOp op) r) (ho' : OpR X (compareOp op') r') (hg : OpG r .o c g) (hg' : OpG r' .o c g') (ha : EX X c own .p W a A) (hb : EX X c own .p W b B) (hd : EX X c own .p W d C)
    (hm : lastMarks [op, op'] [b, d] = false := by with_unfolding_all rfl) : EX X c own .o W (.Compare a [op, op'] [b, d] pos) (eCh g g' A B C) := PE.weak (pe_chain ho ho' ha hb hd hm) fun _ _ _ h => ch_core hg hg' h
theorem b_ch {op op' : CmpOp} {r r' : R2} {g g' : D → D → Option D} (ho : OpR X (compareOp op) r) (ho' : OpR X (compareOp op') r') (hg : OpG r .o c g) (hg' : OpG r' .o c g') (ha : EX X c own .p W a A) (hb : EX X c own .p W b B) (hd : EX X c own .p W d C)
    (hm : lastMarks [op, op'] [b, d] = false := by with_unfolding_all rfl) : BX X c own W (.Compare a [op, op'] [b, d] pos) (bVal (eCh g g' A B C)) := by
  refine PT.weak (pt_chain ho ho' ha hb hd hm) ?_
  rintro σ H Q ⟨Z, ρ, φ, R, h⟩
  show tChain r r' _ _ _ σ H fun x H' => ∃ k, x = .bl k ∧ Q k H'
  refine ch_core (A := A) (B := B) (C := C) hg hg' ⟨Z, ρ, φ, R, ?_⟩
  refine Post.bindB h fun d φ1 v Z1 H1 e1 w1 r1 h1 => ?_
  cases d with
  | bl b => exact ⟨b, r1.bl, h1 Z1 H1 .refl w1⟩
  | _ => exact h1.elim
theorem gLt_ok : OpG (rI0 fun i j => .bl (decide (i < j))) m c gLt := gIB_ok
theorem gLe_ok : OpG (rI0 fun i j => .bl (decide (i ≤ j))) m c gLe := gIB_ok
theorem gGt_ok : OpG (rI0 fun i j => .bl (decide (j < i))) m c gGt := gIB_ok
theorem gGe_ok : OpG (rI0 fun i j => .bl (decide (j ≤ i))) m c gGe := gIB_ok
end

/-! ## comprehensions of two clauses -/
/-- the inner turns: what they add -/
def lc2In (T1 : Tg) (tst1 : SB) (elt : SX) (ρ : En) : List D → Fd → O (List D) := lcGo T1 tst1 elt ρ
def lc2Go (T : Tg) (tst : SB) (I1 : SA) (T1 : Tg) (tst1 : SB) (elt : SX) (vs1 : List Nat) (ρ : En) : List D → Fd → O (List D)
  | [], φ => .ok [] φ
  | d :: ds, φ => match T d ρ with
    | none => .bad
    | some ρ1 => match tst ρ1 φ with
      | .ok true φ1 => match I1 ρ1 φ1 with
        | .ok es φ2 => match lcGo T1 tst1 elt (wipeE ρ1 vs1) es φ2 with
          | .ok xs φ3 => match lc2Go T tst I1 T1 tst1 elt vs1 ρ ds φ3 with
            | .ok ys φ4 => .ok (xs ++ ys) φ4
            | _ => .bad
          | _ => .bad
        | _ => .bad
      | .ok false φ1 => lc2Go T tst I1 T1 tst1 elt vs1 ρ ds φ1
      | _ => .bad
def eLc2 (I : SA) (T : Tg) (tst : SB) (I1 : SA) (T1 : Tg) (tst1 : SB) (elt : SX) (vs vs1 : List Nat) : SX := fun ρ φ => (I ρ φ).bind fun ds φ1 => match lc2Go T tst I1 T1 tst1 elt vs1 (wipeE ρ vs) ds φ1 with
  | .ok ys φ2 => if ys.length ≤ sizeLine then .ok (.lst ys) φ2 else .bad
  | _ => .bad
theorem lc2Go_cons {T : Tg} {tst : SB} {I1 : SA} {T1 : Tg} {tst1 : SB} {elt : SX} {vs1 : List Nat} {ρ : En} {d : D} {ds ys : List D} {φ φ' : Fd} (h : lc2Go T tst I1 T1 tst1 elt vs1 ρ (d :: ds) φ = .ok ys φ') :
    ∃ ρ1 b φ1, T d ρ = some ρ1 ∧ tst ρ1 φ = .ok b φ1 ∧ ((b = false ∧ lc2Go T tst I1 T1 tst1 elt vs1 ρ ds φ1 = .ok ys φ') ∨
      (b = true ∧ ∃ es φ2 xs φ3 r, I1 ρ1 φ1 = .ok es φ2 ∧ lcGo T1 tst1 elt (wipeE ρ1 vs1) es φ2 = .ok xs φ3 ∧ lc2Go T tst I1 T1 tst1 elt vs1 ρ ds φ3 = .ok r φ' ∧ ys = xs ++ r)) := by
  unfold lc2Go at h
  cases e1 : T d ρ with
  | none => rw [e1] at h; cases h
  | some ρ1 =>
    rw [e1] at h
    cases e2 : tst ρ1 φ with
    | ex _ _ _ => simp only [e2] at h; cases h
    | bad => simp only [e2] at h; cases h
    | ok b φ1 =>
      cases b with
      | false => simp only [e2] at h; exact ⟨ρ1, false, φ1, rfl, e2, .inl ⟨rfl, h⟩⟩
      | true =>
        simp only [e2] at h
        cases e3 : I1 ρ1 φ1 with
        | ex _ _ _ => simp only [e3] at h; cases h
        | bad => simp only [e3] at h; cases h
        | ok es φ2 =>
          simp only [e3] at h
          cases e4 : lcGo T1 tst1 elt (wipeE ρ1 vs1) es φ2 with
          | ex _ _ _ => simp only [e4] at h; cases h
          | bad => simp only [e4] at h; cases h
          | ok xs φ3 =>
            simp only [e4] at h
            cases e5 : lc2Go T tst I1 T1 tst1 elt vs1 ρ ds φ3 with
            | ex _ _ _ => simp only [e5] at h; cases h
            | bad => simp only [e5] at h; cases h
            | ok r φ4 =>
              simp only [e5] at h
              cases h
              exact ⟨ρ1, true, φ1, rfl, e2, .inr ⟨rfl, es, φ2, xs, φ3, r, e3, e4, e5, rfl⟩⟩
/-- the new list within the turns: D holds acc, what stood stands -/
structure Lcs (c : Ct) (Z1 H1 : Hp) (D : Addr) (Zn Hn : Hp) (φn : Fd) (accV : List V) (acc : List Pf.D) : Prop where
  en : Ext c.f Z1 H1 Zn Hn
  nD : Zn D = none
  wn : Wf c.K c.f Zn Hn φn
  hD : Hn D = some (.lst accV)
  ra : Reps c.K c.f Zn accV acc
theorem Lcs.more {c : Ct} {Z1 H1 Zn Hn Z' H' : Hp} {D : Addr} {φn φ' : Fd} {accV : List V} {acc : List Pf.D} (L : Lcs c Z1 H1 D Zn Hn φn accV acc) (hDf : D ≠ c.f) (e : Ext c.f Zn Hn Z' H') (w : Wf c.K c.f Z' H' φ') : Lcs c Z1 H1 D Z' H' φ' accV acc :=
  ⟨L.en.trans e, e.n D (by rw [L.hD]; simp) L.nD, w, e.h D _ hDf L.hD, L.ra.mono e.z⟩
theorem Lcs.push {c : Ct} {Z1 H1 Zn Hn : Hp} {D : Addr} {φn : Fd} {accV : List V} {acc : List Pf.D} {v : V} {y : Pf.D} (L : Lcs c Z1 H1 D Zn Hn φn accV acc) (hD1 : H1 D = none) (hDf : D ≠ c.f) (r : Rep c.K c.f Zn v y) :
    Lcs c Z1 H1 D Zn (upd Hn D (.lst (accV ++ [v]))) φn (accV ++ [v]) (acc ++ [y]) := by
  refine ⟨⟨L.en.z, fun a o ha hh => ?_, fun a ha => ?_, L.en.n, L.en.d.trans (.same (upd_ne (Ne.symm hDf)))⟩, L.nD, ⟨fun a o ha => ?_, L.wn.zf, ?_, L.wn.ok⟩, upd_same, L.ra.app (.cons r .nil)⟩
  · rw [upd_ne (ne_of_none hh hD1)]; exact L.en.h a o ha hh
  · by_cases hb : a = D
    · rw [hb, upd_same]; simp
    · rw [upd_ne hb]; exact L.en.k a ha
  · rw [upd_ne (fun e => by rw [e, L.nD] at ha; cases ha)]; exact L.wn.sub a o ha
  · obtain ⟨s, k1, k2⟩ := L.wn.feed
    exact ⟨s, k1, by rw [upd_ne (Ne.symm hDf)]; exact k2⟩
theorem Lcs.start {c : Ct} {Z1 H1 : Hp} {D : Addr} {φ1 : Fd} (w1 : Wf c.K c.f Z1 H1 φ1) (hD : H1 D = none) (hDf : D ≠ c.f) : Lcs c Z1 H1 D Z1 (upd H1 D (.lst [])) φ1 [] [] := by
  have up : ∀ b u, H1 b = some u → upd H1 D (.lst []) b = some u := fun b u e => by rw [upd_ne (ne_of_none e hD)]; exact e
  have hz : Z1 D = none := by
    cases e : Z1 D with
    | none => rfl
    | some u => rw [w1.sub D u e] at hD; cases hD
  refine ⟨⟨fun _ _ e => e, fun b u _ e => up b u e, fun b hb => ?_, fun _ _ e => e, .same (upd_ne (Ne.symm hDf))⟩, hz, ⟨fun b u e => up b u (w1.sub b u e), w1.zf, ?_, w1.ok⟩, upd_same, .nil⟩
  · cases e : H1 b with
    | none => exact absurd e hb
    | some u => rw [up b u e]; simp
  · obtain ⟨s, k1, k2⟩ := w1.feed
    exact ⟨s, k1, up _ _ k2⟩
section
variable {X : Cx} {c : Ct} {own o1 o2 : List Ms} {W : WX} {pos : Pos}
theorem lc2_read {I I1 : SA} {T T1 : Tg} {tst tst1 : SB} {elt : SX} {vs vs1 is is1 : List Nat} {σ : L2.St} {H : Hp} {Q : VK} (his : ∀ j ∈ is, j ∈ vs) (his1 : ∀ j ∈ is1, j ∈ vs1) (hvs : ∀ j ∈ vs1, j ∈ vs) (h : tE c own .o W (eLc2 I T tst I1 T1 tst1 elt vs vs1) σ H Q) :
    tLc2 (tI c own true W I) (tT c (ownB own vs) o1 is T) (tB c o1 W0 tst) (tI c o1 false W0 I1) (tT c (ownB o1 vs1) o2 is1 T1) (tB c o2 W0 tst1) (tE c o2 .s W0 elt) vs vs1 σ H Q := by
  obtain ⟨Z, ρ, φ, R, h⟩ := h
  refine ⟨Z, ρ, φ, R, ?_⟩
  unfold eLc2 at h
  cases hI : I ρ φ with
  | bad => rw [hI] at h; exact h
  | ex y l φ' => rw [hI] at h; exact h
  | ok ds φ1 =>
    rw [hI] at h
    intro J Z1 H1 e1 w1 wk D hD
    have hgo : ∃ ys φ2, lc2Go T tst I1 T1 tst1 elt vs1 (wipeE ρ vs) ds φ1 = .ok ys φ2 ∧ ys.length ≤ sizeLine ∧ Post c .o W (.ok (.lst ys) φ2) σ Z H Q := by
      have h' : Post c .o W (match lc2Go T tst I1 T1 tst1 elt vs1 (wipeE ρ vs) ds φ1 with
        | .ok ys φ2 => if ys.length ≤ sizeLine then .ok (.lst ys) φ2 else .bad
        | _ => .bad) σ Z H Q := h
      cases hg : lc2Go T tst I1 T1 tst1 elt vs1 (wipeE ρ vs) ds φ1 with
      | bad => rw [hg] at h'; exact h'.elim
      | ex _ _ _ => rw [hg] at h'; exact h'.elim
      | ok ys φ2 =>
        rw [hg] at h'
        obtain ⟨h1, h2⟩ := iteO_ok (E := fun o => Post c .o W o σ Z H Q) h' fun z => z
        exact ⟨ys, φ2, rfl, h1, h2⟩
    obtain ⟨tot, φe, hgo, hsz, hpost⟩ := hgo
    have hDf : D ≠ c.f := fun e => w1.hf (by rw [← e]; exact hD)
    refine ⟨fun i m Hn => m = ds.length - i ∧ i ≤ ds.length ∧ ∃ Zn φn acc accV rest, Lcs c Z1 H1 D Zn Hn φn accV acc ∧ lc2Go T tst I1 T1 tst1 elt vs1 (wipeE ρ vs) (ds.drop i) φn = .ok rest φe ∧ acc ++ rest = tot,
      ⟨ds.length, by simp, Nat.zero_le _, Z1, φ1, [], [], tot, .start w1 hD hDf, hgo, rfl⟩, ?_⟩
    rintro i m Hn ⟨rfl, hi, Zn, φn, acc, accV, rest, L, hg, ht⟩
    obtain ⟨wk1, wk2⟩ := wk i Zn Hn φn ⟨L.en.z, fun _ => L.en.h, ((R.more e1 w1).ext.trans L.en).h⟩ L.wn
    by_cases hlt : i < ds.length
    · obtain ⟨d, hd⟩ : ∃ d, ds[i]? = some d := ⟨_, List.getElem?_eq_getElem hlt⟩
      obtain ⟨go, step⟩ := wk2 d hd
      rw [List.drop_eq_getElem_cons hlt] at hg
      have hdd : ds[i] = d := by
        rw [List.getElem?_eq_getElem hlt] at hd
        exact Option.some.inj hd
      rw [hdd] at hg
      obtain ⟨ρ1, b, φt, hT, htst, hcase⟩ := lc2Go_cons hg
      refine .inr ⟨go, fun H' => ∃ m', m' < ds.length - i ∧ (m' = ds.length - (i + 1) ∧ i + 1 ≤ ds.length ∧ ∃ Zn φn acc accV rest, Lcs c Z1 H1 D Zn H' φn accV acc ∧ lc2Go T tst I1 T1 tst1 elt vs1 (wipeE ρ vs) (ds.drop (i + 1)) φn = .ok rest φe ∧ acc ++ rest = tot), fun H' h => h, fun x Hx hx => ?_⟩
      obtain ⟨Zx, ex, wx, rx⟩ := step x Hx hx
      have Lx := L.more hDf ex wx
      have Rb : Rl c (ownB own vs) Zx (wipeE ρ vs) φn (L2.wipe σ vs) Hx := ((R.more e1 w1).more Lx.en wx).block vs
      refine ⟨Zx, wipeE ρ vs, φn, d, ρ1, Rb, rx, hT, fun σ2 tr agr => ⟨?_, Zx, ρ1, φn, tr Zx Hx φn Sub.refl Rb, ?_⟩⟩
      · have hh : L2.wipe σ2 vs = L2.wipe (L2.wipe σ vs) vs := agr.wipe his
        rw [hh]
        refine Agr.wipe (is := vs) ⟨wipe_length _ _, fun j hj => wipe_out hj⟩ fun j h => h
      · rw [htst]
        intro Z3 H3 e3 w3
        have L3 := Lx.more hDf e3 w3
        rcases hcase with ⟨rfl, hr⟩ | ⟨rfl, es, φi, xs, φx, r, hI1, hin, hr, hys⟩
        · rw [if_neg (by decide)]
          exact ⟨ds.length - (i + 1), by omega, rfl, hlt, Z3, φt, acc, accV, rest, L3, hr, ht⟩
        · rw [if_pos rfl]
          have R3 := (tr Zx Hx φn Sub.refl Rb).more e3 w3
          refine ⟨Z3, ρ1, φt, R3, ?_⟩
          rw [hI1]
          intro J1 Z4 H4 e4 w4 wk4
          have L4 := L3.more hDf e4 w4
          have R4 := R3.more e4 w4
          -- the inner walk
          refine ⟨fun j k Hm => k = es.length - j ∧ j ≤ es.length ∧ ∃ Zm φm acc' accV' rest', Lcs c Z1 H1 D Zm Hm φm accV' acc' ∧ Sub Z4 Zm ∧ lcGo T1 tst1 elt (wipeE ρ1 vs1) (es.drop j) φm = .ok rest' φx ∧ acc' ++ rest' = acc ++ xs,
            ⟨es.length, by simp, Nat.zero_le _, Z4, φi, acc, accV, xs, L4, Sub.refl, hin, rfl⟩, ?_⟩
          rintro j k Hm ⟨rfl, hj, Zm, φm, acc', accV', rest', Lm, em, hgm, htm⟩
          obtain ⟨vk1, vk2⟩ := wk4 j Zm Hm φm ⟨em, fun e => absurd e (by decide), ((R.more e1 w1).ext.trans Lm.en).h⟩ Lm.wn
          by_cases hjl : j < es.length
          · obtain ⟨d1, hd1⟩ : ∃ d, es[j]? = some d := ⟨_, List.getElem?_eq_getElem hjl⟩
            obtain ⟨go1, step1⟩ := vk2 d1 hd1
            rw [List.drop_eq_getElem_cons hjl] at hgm
            have hdd1 : es[j] = d1 := by
              rw [List.getElem?_eq_getElem hjl] at hd1
              exact Option.some.inj hd1
            rw [hdd1] at hgm
            obtain ⟨ρ2, b1, φu, hT1, htst1, hcase1⟩ := lcGo_cons hgm
            refine .inr ⟨go1, fun H' => ∃ k', k' < es.length - j ∧ (k' = es.length - (j + 1) ∧ j + 1 ≤ es.length ∧ ∃ Zm φm acc' accV' rest', Lcs c Z1 H1 D Zm H' φm accV' acc' ∧ Sub Z4 Zm ∧ lcGo T1 tst1 elt (wipeE ρ1 vs1) (es.drop (j + 1)) φm = .ok rest' φx ∧ acc' ++ rest' = acc ++ xs), fun H' h => h, fun x1 Hy hy => ?_⟩
            obtain ⟨Zy, ey, wy, ry⟩ := step1 x1 Hy hy
            have Ly := Lm.more hDf ey wy
            have kxy : Sub Zx Zy := ((Sub.trans e3.z e4.z).trans em).trans ey.z
            have Ry : Rl c o1 Zy ρ1 φm σ2 Hy := tr Zy Hy φm kxy (((R.more e1 w1).more Ly.en wy).block vs)
            have Rb1 : Rl c (ownB o1 vs1) Zy (wipeE ρ1 vs1) φm (L2.wipe σ2 vs1) Hy := Ry.block vs1
            refine ⟨Zy, wipeE ρ1 vs1, φm, d1, ρ2, Rb1, ry, hT1, fun σ3 tr1 agr1 => ⟨?_, Zy, ρ2, φm, tr1 Zy Hy φm Sub.refl Rb1, ?_⟩⟩
            · have hh : L2.wipe σ3 vs1 = L2.wipe (L2.wipe σ2 vs1) vs1 := agr1.wipe his1
              rw [hh]
              refine Agr.wipe (is := vs1) ⟨wipe_length _ _, fun j hj => wipe_out hj⟩ fun j h => h
            · rw [htst1]
              intro Z6 H6 e6 w6
              have L6 := Ly.more hDf e6 w6
              rcases hcase1 with ⟨rfl, hr1⟩ | ⟨rfl, y, φy, r1, hy1, hr1, hys1⟩
              · rw [if_neg (by decide)]
                exact ⟨es.length - (j + 1), by omega, rfl, hjl, Z6, φu, acc', accV', rest', L6, (em.trans ey.z).trans e6.z, hr1, htm⟩
              · rw [if_pos rfl]
                refine ⟨Z6, ρ2, φu, (tr1 Zy Hy φm Sub.refl Rb1).more e6 w6, ?_⟩
                rw [hy1]
                intro v Z7 H7 e7 w7 r7
                have r7' : Rep c.K c.f Z7 v y := r7
                have L7 := L6.more hDf e7 w7
                have hacc : accV'.length < sizeLine := by
                  have g1 := Lm.ra.length
                  have g2 : (acc ++ rest).length ≤ sizeLine := by rw [ht]; exact hsz
                  have g3 := congrArg List.length htm
                  rw [hys1] at g3
                  rw [hys] at g2
                  simp only [List.length_append, List.length_cons] at g2 g3
                  omega
                exact ⟨accV', L7.hD, hacc, es.length - (j + 1), by omega, rfl, hjl, Z7, φy, acc' ++ [y], accV' ++ [v], r1, L7.push hD hDf r7', ((em.trans ey.z).trans e6.z).trans e7.z, hr1, by rw [List.append_assoc, ← htm, hys1]; rfl⟩
          · have hje : j = es.length := by omega
            refine .inl ⟨vk1 hje, ?_⟩
            rw [hje, List.drop_length] at hgm
            cases hgm
            rw [List.append_nil] at htm
            exact ⟨ds.length - (i + 1), by omega, rfl, hlt, Zm, φx, acc', accV', r, Lm, hr, by rw [htm, List.append_assoc, ← hys]; exact ht⟩
    · have hie : i = ds.length := by omega
      refine .inl ⟨wk1 hie, ?_⟩
      rw [hie, List.drop_length] at hg
      cases hg
      rw [List.append_nil] at ht
      subst ht
      have e2 := e1.trans L.en
      refine hpost (.ref D) Zn Hn e2 L.wn ?_
      show Res .o c.K c.f H Zn Hn (.ref D) (.lst acc)
      unfold Res
      rw [if_pos (by rfl)]
      refine ⟨D, .lst accV, rfl, ?_, L.nD, hDf, L.hD, .lst L.ra⟩
      cases e : H D with
      | none => rfl
      | some u => exact absurd hD (e1.k D (by rw [e]; simp))
end
end Pf

set_option Elab.async false
set_option linter.all false
set_option maxRecDepth 100000
set_option maxHeartbeats 4000000
namespace Pf
open PySem PySem.Spec PyProof.Rows L2

/-! ## order of data -/
def ltD (d e : D) : Bool := PySem.W.dataLt d.py e.py
def okLt (d e : D) : Bool := PySem.W.alike d.py e.py && d.shp && e.shp && !d.isNon
def rCmpD (K : PySem.W.Frag) (g : PyData → PyData → Bool) : R2 := fun x y H Q => ∃ d e, Dp K H x d ∧ Dp K H y e ∧ PySem.W.alike d e = true ∧ SeqAt.shaped d = true ∧ d ≠ .none ∧ Q (.bl (g d e)) H
section
variable {X : Cx}
theorem room_min {d e : PyData} {n : Nat} (sd : SeqAt.shaped d = true) (hu : n + 64 < cLine) : n + min d.depth e.depth < cLine := by
  have := SeqAt.depth_of_shaped sd
  omega
theorem op_ltD (hu : X.A.units + 64 < cLine) : OpR X (compareOp .Lt) (rCmpD X.K fun d e => PySem.W.dataLt d e) := by
  intro pins s σ H x y v u Q I rx ry h
  obtain ⟨d, e, hd, he, al, sd, hn, q⟩ := h
  obtain ⟨as, r1⟩ := Dp.reads I d x v hd rx
  obtain ⟨bs, r2⟩ := Dp.reads I e y u he ry
  exact PySem.W.lt_data r1 r2 al hn (room_min sd hu) ⟨.bl _, H, I, rfl, q⟩
theorem op_gtD (hu : X.A.units + 64 < cLine) : OpR X (compareOp .Gt) (rCmpD X.K fun d e => PySem.W.dataLt e d) := by
  intro pins s σ H x y v u Q I rx ry h
  obtain ⟨d, e, hd, he, al, sd, hn, q⟩ := h
  obtain ⟨as, r1⟩ := Dp.reads I d x v hd rx
  obtain ⟨bs, r2⟩ := Dp.reads I e y u he ry
  exact PySem.W.gt_data r1 r2 al hn (room_min sd hu) ⟨.bl _, H, I, rfl, q⟩
theorem op_leD (hu : X.A.units + 64 < cLine) : OpR X (compareOp .LtE) (rCmpD X.K fun d e => !PySem.W.dataLt e d) := by
  intro pins s σ H x y v u Q I rx ry h
  obtain ⟨d, e, hd, he, al, sd, hn, q⟩ := h
  obtain ⟨as, r1⟩ := Dp.reads I d x v hd rx
  obtain ⟨bs, r2⟩ := Dp.reads I e y u he ry
  exact PySem.W.le_data r1 r2 al hn (room_min sd hu) ⟨.bl _, H, I, rfl, q⟩
theorem op_geD (hu : X.A.units + 64 < cLine) : OpR X (compareOp .GtE) (rCmpD X.K fun d e => !PySem.W.dataLt d e) := by
  intro pins s σ H x y v u Q I rx ry h
  obtain ⟨d, e, hd, he, al, sd, hn, q⟩ := h
  obtain ⟨as, r1⟩ := Dp.reads I d x v hd rx
  obtain ⟨bs, r2⟩ := Dp.reads I e y u he ry
  exact PySem.W.ge_data r1 r2 al hn (room_min sd hu) ⟨.bl _, H, I, rfl, q⟩
end
def gLtD : D → D → Option D := fun d e => if okLt d e = true then some (.bl (ltD d e)) else none
def gGtD : D → D → Option D := fun d e => if okLt d e = true then some (.bl (ltD e d)) else none
def gLeD : D → D → Option D := fun d e => if okLt d e = true then some (.bl (!ltD e d)) else none
def gGeD : D → D → Option D := fun d e => if okLt d e = true then some (.bl (!ltD d e)) else none
theorem okLt_ok {d e : D} (h : okLt d e = true) : PySem.W.alike d.py e.py = true ∧ d.shp = true ∧ e.shp = true ∧ d.py ≠ .none := by
  unfold okLt at h
  simp only [Bool.and_eq_true, Bool.not_eq_true'] at h
  obtain ⟨⟨⟨h1, h2⟩, h3⟩, h4⟩ := h
  refine ⟨h1, h2, h3, ?_⟩
  intro q
  cases d <;> first | (cases q; done) | (simp [D.isNon] at h4)
section
variable {X : Cx} {c : Ct} {own : List Ms} {m : Md} {W : WX} {a b : Expr} {A B : SX} {pos : Pos}
theorem cmpD_ok {g : PyData → PyData → Bool} : OpG (rCmpD c.K g) m c (fun d e => if okLt d e = true then some (.bl (g d.py e.py)) else none) := by
  intro Z H φ x y d e z W σ Q w rx ry hg h
  obtain ⟨hs, rfl⟩ := ifs hg
  obtain ⟨h1, h2, h3, h4⟩ := okLt_ok hs
  exact ⟨_, _, rx.dp w (SeqAt.canLay_of_shaped h2), ry.dp w (SeqAt.canLay_of_shaped h3), h1, h2, h4, h.nowB w⟩
theorem gLtD_ok : OpG (rCmpD c.K fun d e => PySem.W.dataLt d e) m c gLtD := cmpD_ok
theorem gGtD_ok : OpG (rCmpD c.K fun d e => PySem.W.dataLt e d) m c gGtD := cmpD_ok
theorem gLeD_ok : OpG (rCmpD c.K fun d e => !PySem.W.dataLt e d) m c gLeD := cmpD_ok
theorem gGeD_ok : OpG (rCmpD c.K fun d e => !PySem.W.dataLt d e) m c gGeD := cmpD_ok
theorem x_ltD (hK : X.K = c.K) (hu : X.A.units + 64 < cLine) (ha : EX X c own .p W a A) (hb : EX X c own .p W b B) : EX X c own .o W (.Compare a [.Lt] [b] pos) (eBin gLtD A B) := x_cmp (op_ltD hu) (by rw [hK]; exact gLtD_ok) ha hb (nomark _)
theorem x_gtD (hK : X.K = c.K) (hu : X.A.units + 64 < cLine) (ha : EX X c own .p W a A) (hb : EX X c own .p W b B) : EX X c own .o W (.Compare a [.Gt] [b] pos) (eBin gGtD A B) := x_cmp (op_gtD hu) (by rw [hK]; exact gGtD_ok) ha hb (nomark _)
theorem x_leD (hK : X.K = c.K) (hu : X.A.units + 64 < cLine) (ha : EX X c own .p W a A) (hb : EX X c own .p W b B) : EX X c own .o W (.Compare a [.LtE] [b] pos) (eBin gLeD A B) := x_cmp (op_leD hu) (by rw [hK]; exact gLeD_ok) ha hb (nomark _)
theorem x_geD (hK : X.K = c.K) (hu : X.A.units + 64 < cLine) (ha : EX X c own .p W a A) (hb : EX X c own .p W b B) : EX X c own .o W (.Compare a [.GtE] [b] pos) (eBin gGeD A B) := x_cmp (op_geD hu) (by rw [hK]; exact gGeD_ok) ha hb (nomark _)
theorem b_ltD (hK : X.K = c.K) (hu : X.A.units + 64 < cLine) (ha : EX X c own .p W a A) (hb : EX X c own .p W b B) : BX X c own W (.Compare a [.Lt] [b] pos) (bCmp gLtD A B) := b_cmp (op_ltD hu) (by rw [hK]; exact gLtD_ok) ha hb (nomark _)
theorem b_gtD (hK : X.K = c.K) (hu : X.A.units + 64 < cLine) (ha : EX X c own .p W a A) (hb : EX X c own .p W b B) : BX X c own W (.Compare a [.Gt] [b] pos) (bCmp gGtD A B) := b_cmp (op_gtD hu) (by rw [hK]; exact gGtD_ok) ha hb (nomark _)
theorem b_leD (hK : X.K = c.K) (hu : X.A.units + 64 < cLine) (ha : EX X c own .p W a A) (hb : EX X c own .p W b B) : BX X c own W (.Compare a [.LtE] [b] pos) (bCmp gLeD A B) := b_cmp (op_leD hu) (by rw [hK]; exact gLeD_ok) ha hb (nomark _)
theorem b_geD (hK : X.K = c.K) (hu : X.A.units + 64 < cLine) (ha : EX X c own .p W a A) (hb : EX X c own .p W b B) : BX X c own W (.Compare a [.GtE] [b] pos) (bCmp gGeD A B) := b_cmp (op_geD hu) (by rw [hK]; exact gGeD_ok) ha hb (nomark _)
end

/-! ## sorted -/
def leD (d e : D) : Bool := !ltD e d
def sortD (l : List D) : List D := l.mergeSort leD
/-- what sorted asks of the items -/
def okSort (l : List D) : Prop := (∀ d ∈ l, ∀ e ∈ l, PySem.W.alike d.py e.py = true) ∧ (∀ d ∈ l, d.shp = true) ∧ ((∀ d ∈ l, ∃ x r, d = .tup (x :: r)) ∨ ∀ d ∈ l, d ≠ .non ∧ ∀ xs, d ≠ .tup xs)
noncomputable instance okSortD (l : List D) : Decidable (okSort l) := Classical.propDecidable _
noncomputable def gSorted : List D → Option D
  | [.lst l] => if okSort l then some (.lst (sortD l)) else none
  | _ => none
theorem gSorted_l {l : List D} (h : okSort l) : gSorted [.lst l] = some (.lst (sortD l)) := by
  show (if okSort l then some (D.lst (sortD l)) else none) = _
  rw [if_pos h]
def leP (p q : V × PyData) : Bool := !PySem.W.dataLt q.2 p.2
def rSortedD (K : PySem.W.Frag) : List V → Hp → VK → Prop := fun vs H Q => ∃ (a : Addr) (ps : List (V × PyData)), vs = [V.ref a] ∧ SqL K H a (ps.map Prod.fst) ∧ (∀ p ∈ ps, Dp K H p.1 p.2) ∧ (∀ p ∈ ps, ∀ q ∈ ps, PySem.W.alike p.2 q.2 = true) ∧ (∀ p ∈ ps, SeqAt.shaped p.2 = true) ∧
  PySem.W.Sortable (ps.map Prod.snd) ∧ ∀ (p : Addr), H p = none → Q (.ref p) (upd H p (.lst ((ps.mergeSort leP).map Prod.fst)))
section
variable {X : Cx}
theorem vals_each {α : Type} {f : α → V} : ∀ {bs : List α} {vs : List Value}, Vals (bs.map f) vs → PySem.W.EachIs (fun v b => RelV (f b) v) vs bs
  | [], _, h => by cases h; exact .nil
  | b :: bs, _, h => by
    cases h with
    | cons h1 h2 => exact .cons h1 (vals_each h2)
theorem each_vals {α : Type} {f : α → V} : ∀ {bs : List α} {vs : List Value}, PySem.W.EachIs (fun v b => RelV (f b) v) vs bs → Vals (bs.map f) vs
  | [], _, h => by cases h; exact .nil
  | b :: bs, _, h => by
    cases h with
    | cons h1 h2 => exact .cons h1 (each_vals h2)
theorem each_mono {α β : Type} {R S : α → β → Prop} : ∀ {as : List α} {bs : List β}, PySem.W.EachIs R as bs → (∀ a b, b ∈ bs → R a b → S a b) → PySem.W.EachIs S as bs
  | _, _, .nil, _ => .nil
  | _, _, .cons h t, k => .cons (k _ _ List.mem_cons_self h) (each_mono t fun a b hb => k a b (List.mem_cons_of_mem _ hb))
theorem each_map {α β γ : Type} {R : α → γ → Prop} (f : β → γ) : ∀ {as : List α} {bs : List β}, PySem.W.EachIs (fun a b => R a (f b)) as bs → PySem.W.EachIs R as (bs.map f)
  | _, _, .nil => .nil
  | _, _, .cons h t => .cons h (each_map f t)
theorem cr_sortedD (hu : X.A.units + 66 < cLine) : CallR X (.builtin "sorted") (rSortedD X.K) := by
  intro pins s σ H vs us Q I r h
  obtain ⟨a, ps, rfl, hs, hd, hal, hsh, hst, q⟩ := h
  obtain ⟨its, rv, hl, hz⟩ := I.list hs
  rw [Vals.ref1 r]
  have e0 : PySem.W.EachIs (fun v (b : V × PyData) => RelV b.1 v) its ps := vals_each rv
  have keep : ∀ b o, s.heap.get? b = some o → (PySem.W.sortingHeap (PySem.W.copyHeap s.heap its) (s.heap.objs.size + 1) its).get? b = some o := fun b o e => PySem.W.sorting_copy_old e
  have e1 : PySem.W.EachIs (fun v (b : V × PyData) => RelV b.1 v ∧ ∃ as, Reads (PySem.W.sortingHeap (PySem.W.copyHeap s.heap its) (s.heap.objs.size + 1) its) v b.2 as) its ps :=
    each_mono e0 fun v b hb rb => by
      obtain ⟨as, ra⟩ := Dp.reads I b.2 b.1 v (hd b hb) rb
      exact ⟨rb, as, PyProof.Rows.Reads.keeps keep ra⟩
  have e2 := each_map (R := fun v d => ∃ as, Reads (PySem.W.sortingHeap (PySem.W.copyHeap s.heap its) (s.heap.objs.size + 1) its) v d as) Prod.snd (each_mono e1 fun _ _ _ q => q.2)
  have hAll : PySem.W.AllAlike (ps.map Prod.snd) := fun d h1 d' h2 => by
    obtain ⟨p, hp, rfl⟩ := List.mem_map.mp h1
    obtain ⟨p', hp', rfl⟩ := List.mem_map.mp h2
    exact hal p hp p' hp'
  have S := PySem.W.SortsAt.data (prog := X.prog) (w := X.w) (A := X.A.in1.in1) (s := { s with heap := PySem.W.sortingHeap (PySem.W.copyHeap s.heap its) (s.heap.objs.size + 1) its }) e2 hAll hst fun d h1 => by
    obtain ⟨p, hp, rfl⟩ := List.mem_map.mp h1
    have := SeqAt.depth_of_shaped (hsh p hp)
    show X.A.units + 1 + 1 + _ < cLine
    omega
  have hzi : its.length ≤ sizeLine := by rw [← rv.length]; exact hz
  refine PySem.W.sorted_vals hl.isList S hzi ?_
  obtain ⟨ep, he'⟩ := PyProof.Rows.sortedAll_at s.heap its (PySem.W.sortVals (PySem.W.dataKind (PySem.W.sortingHeap (PySem.W.copyHeap s.heap its) (s.heap.objs.size + 1) its) (ps.map Prod.snd)) false its its).toArray
  have kk : PySem.W.EachIs (fun v (b : V × PyData) => (PySem.W.dataKind (PySem.W.sortingHeap (PySem.W.copyHeap s.heap its) (s.heap.objs.size + 1) its) (ps.map Prod.snd)).keyOf v = some (PySem.W.keyToks b.2)) its ps :=
    each_mono e1 fun v b hb ⟨_, as, ra⟩ => PySem.W.dataKind_some hAll (List.mem_map.mpr ⟨b, hb, rfl⟩) ra
  have out := PySem.W.sortVals_each (κ := PySem.W.dataKind (PySem.W.sortingHeap (PySem.W.copyHeap s.heap its) (s.heap.objs.size + 1) its) (ps.map Prod.snd)) (rev := false) (fun b : V × PyData => PySem.W.keyToks b.2) e0 kk
  have hle : PySem.W.sortLe (listOrd itemOrd) false (fun b : V × PyData => PySem.W.keyToks b.2) = leP := rfl
  have out' : Vals ((ps.mergeSort leP).map Prod.fst) (PySem.W.sortVals (PySem.W.dataKind (PySem.W.sortingHeap (PySem.W.copyHeap s.heap its) (s.heap.objs.size + 1) its) (ps.map Prod.snd)) false its its) := each_vals out
  have hlen : ((ps.mergeSort leP).map Prod.fst).length ≤ sizeLine := by
    rw [List.length_map, (List.mergeSort_perm _ _).length_eq]
    rw [List.length_map] at hz
    exact hz
  exact ⟨.ref _, upd H (s.heap.objs.size + 1) (.lst ((ps.mergeSort leP).map Prod.fst)), I.laid (t' := s.toks) (fun _ _ => PyProof.Rows.sortedAll_old) (Nat.le_succ _) ⟨hlen, _, ep, out', he'⟩, rfl, q _ (I.hok.fresh (Nat.le_succ _))⟩
end
theorem reps_zip {K : PySem.W.Frag} {f : Addr} {Z : Hp} : ∀ {vs : List V} {ds : List D}, Reps K f Z vs ds → (vs.zip ds).map Prod.fst = vs ∧ (vs.zip ds).map Prod.snd = ds ∧ ∀ p ∈ vs.zip ds, Rep K f Z p.1 p.2
  | _, _, .nil => ⟨rfl, rfl, fun p h => by cases h⟩
  | _, _, .cons r s => by
    obtain ⟨h1, h2, h3⟩ := reps_zip s
    refine ⟨by simp [h1], by simp [h2], fun p hp => ?_⟩
    rw [List.zip_cons_cons] at hp
    rcases List.mem_cons.mp hp with rfl | hp
    · exact r
    · exact h3 p hp
theorem reps_of_zip {K : PySem.W.Frag} {f : Addr} {Z : Hp} : ∀ {ps : List (V × D)}, (∀ p ∈ ps, Rep K f Z p.1 p.2) → Reps K f Z (ps.map Prod.fst) (ps.map Prod.snd)
  | [], _ => .nil
  | p :: ps, h => .cons (h p List.mem_cons_self) (reps_of_zip fun q hq => h q (List.mem_cons_of_mem _ hq))
theorem sorted_core {c : Ct} {Z H : Hp} {φ : Fd} {a : Addr} {vs : List V} {ds : List D} {Q : VK} {W : WX} {σ : L2.St} (w : Wf c.K c.f Z H φ) (hl : SqL c.K H a vs) (rs : Reps c.K c.f Z vs ds) (ok : okSort ds) (h : Post c .o W (.ok (.lst (sortD ds)) φ) σ Z H Q) : rSortedD c.K [.ref a] H Q := by
  obtain ⟨h1, h2, h3⟩ := reps_zip rs
  obtain ⟨o1, o2, o3⟩ := ok
  have mem : ∀ p ∈ vs.zip ds, p.2 ∈ ds := fun p hp => by rw [← h2]; exact List.mem_map.mpr ⟨p, hp, rfl⟩
  refine ⟨a, (vs.zip ds).map fun p => (p.1, p.2.py), rfl, ?_, ?_, ?_, ?_, ?_, ?_⟩
  · rw [List.map_map]
    show SqL c.K H a ((vs.zip ds).map Prod.fst)
    rw [h1]
    exact hl
  · intro p hp
    obtain ⟨q, hq, rfl⟩ := List.mem_map.mp hp
    exact Dp.mono w.sub (Rep.dp (h3 q hq) (SeqAt.canLay_of_shaped (o2 _ (mem q hq))))
  · intro p hp p' hp'
    obtain ⟨q, hq, rfl⟩ := List.mem_map.mp hp
    obtain ⟨q', hq', rfl⟩ := List.mem_map.mp hp'
    exact o1 _ (mem q hq) _ (mem q' hq')
  · intro p hp
    obtain ⟨q, hq, rfl⟩ := List.mem_map.mp hp
    exact o2 _ (mem q hq)
  · rcases o3 with o3 | o3
    · refine .inl fun d hd => ?_
      obtain ⟨p, hp, rfl⟩ := List.mem_map.mp hd
      obtain ⟨q, hq, rfl⟩ := List.mem_map.mp hp
      obtain ⟨x, r, e⟩ := o3 _ (mem q hq)
      refine ⟨x.py, D.pys r, ?_⟩
      show q.2.py = _
      rw [e]
      rfl
    · refine .inr fun d hd => ?_
      obtain ⟨p, hp, rfl⟩ := List.mem_map.mp hd
      obtain ⟨q, hq, rfl⟩ := List.mem_map.mp hp
      obtain ⟨n1, n2⟩ := o3 _ (mem q hq)
      refine ⟨fun e => n1 ?_, fun xs e => ?_⟩
      · cases hh : q.2 <;> rw [hh] at e <;> first | rfl | (cases e; done)
      · cases hh : q.2 <;> rw [hh] at e <;> first | exact n2 _ hh | (cases e; done)
  · have e : ((vs.zip ds).map fun p => (p.1, p.2.py)).mergeSort leP = ((vs.zip ds).mergeSort fun p q => leD p.2 q.2).map fun p => (p.1, p.2.py) :=
      (List.map_mergeSort (f := fun p : V × D => (p.1, p.2.py)) (r := fun p q => leD p.2 q.2) (s := leP) fun a _ b _ => rfl).symm
    rw [e, List.map_map]
    have e2 : ((vs.zip ds).mergeSort fun p q => leD p.2 q.2).map Prod.snd = sortD ds := by
      have := List.map_mergeSort (f := Prod.snd) (r := fun p q : V × D => leD p.2 q.2) (s := leD) (l := vs.zip ds) fun a _ b _ => rfl
      rw [this, h2]
      rfl
    have rs' : Reps c.K c.f Z (((vs.zip ds).mergeSort fun p q => leD p.2 q.2).map Prod.fst) (sortD ds) := by
      rw [← e2]
      exact reps_of_zip fun p hp => h3 p ((List.mergeSort_perm _ _).mem_iff.mp hp)
    exact h.newO w (.lst rs')
theorem gSorted_ok {c : Ct} : CallG (rSortedD c.K) .o c gSorted := by
  intro Z H φ xs ds z W σ Q w r hg h
  match ds, hg, r with
  | [.lst l], hg, r =>
    obtain ⟨x, rfl, rr⟩ := r.one
    have hg' : (if okSort l then some (D.lst (sortD l)) else none) = some z := hg
    obtain ⟨ok, rfl⟩ := ifs hg'
    obtain ⟨p, vs, rfl, hp, q⟩ := rr.lst w
    exact sorted_core w (SqL.of hp) q ok h

/-! ## comprehensions of two clauses: as expressions, and bound to a name -/
section
variable {X : Cx} {c : Ct} {w : Ow} {own o1 o2 : List Ms} {W : WX} {pos : Pos}
theorem x_lc2 {elt tg iter tg1 iter1 : Expr} {ifs ifs1 : List Expr} {scope : Scope} (nm : List (Str × Nat)) {is is1 : List Nat} (vs1 : List Nat) {I I1 : SA} {T T1 : Tg} {tst tst1 : SB} {elt' : SX} (hc : X.calm = true) (hN : X.N.Nodup) (ok : blkC X.N X.env.scope scope nm = true)
    (hi : IJ X c own true W tg iter I)
    (hg : ∀ (s : Shared) (H : Hp) (C : Addr) (cl : List (Str × Addr)) (fp : List Addr), TJ (X.blk s H scope (compEnvC scope cl C X.env) fp) c (ownB own (nm.map (·.2))) o1 is tg T)
    (ht : ∀ (s : Shared) (H : Hp) (C : Addr) (cl : List (Str × Addr)) (fp : List Addr), PTs (X.blk s H scope (compEnvC scope cl C X.env) fp) ifs (tB c o1 W0 tst))
    (hi1 : ∀ (s : Shared) (H : Hp) (C : Addr) (cl : List (Str × Addr)) (fp : List Addr), IJ (X.blk s H scope (compEnvC scope cl C X.env) fp) c o1 false W0 tg1 iter1 I1)
    (hg1 : ∀ (s : Shared) (H : Hp) (C : Addr) (cl : List (Str × Addr)) (fp : List Addr), TJ (X.blk s H scope (compEnvC scope cl C X.env) fp) c (ownB o1 vs1) o2 is1 tg1 T1)
    (ht1 : ∀ (s : Shared) (H : Hp) (C : Addr) (cl : List (Str × Addr)) (fp : List Addr), PTs (X.blk s H scope (compEnvC scope cl C X.env) fp) ifs1 (tB c o2 W0 tst1))
    (he : ∀ (s : Shared) (H : Hp) (C : Addr) (cl : List (Str × Addr)) (fp : List Addr), EX (X.blk s H scope (compEnvC scope cl C X.env) fp) c o2 .s W0 elt elt')
    (hs : ∀ x, foldedSetIterable iter X.env x = pure x := by intro _; rfl) (hs1 : ∀ env x, foldedSetIterable iter1 env x = pure x := by intro _ _; rfl) (hsub : ∀ j ∈ is, j ∈ nm.map (·.2) := by decide) (hsub1 : ∀ j ∈ is1, j ∈ vs1 := by decide) (hvs : ∀ j ∈ vs1, j ∈ nm.map (·.2) := by decide) :
    EX X c own .o W (.ListComp elt [⟨tg, iter, ifs, 0⟩, ⟨tg1, iter1, ifs1, 0⟩] scope pos) (eLc2 I T tst I1 T1 tst1 elt' (nm.map (·.2)) vs1) :=
  PE.weak (pe_lc2 hc hN hi (blkOk_by ok) hvs hg ht hi1 hg1 ht1 he hs hs1) fun _ _ _ h => lc2_read hsub hsub1 hvs h
theorem s_setLc2 (i : Nat) {y : Str} {py : Pos} {elt tg iter tg1 iter1 : Expr} {ifs ifs1 : List Expr} {scope : Scope} (nm : List (Str × Nat)) {is is1 : List Nat} (vs1 : List Nat) {I I1 : SA} {T T1 : Tg} {tst tst1 : SB} {elt' : SX} {lcp : Pos} (hc : X.calm = true) (hN : X.N.Nodup) (ok : blkC X.N X.env.scope scope nm = true)
    (hi : IJ X c own true w.W tg iter I)
    (hg : ∀ (s : Shared) (H : Hp) (C : Addr) (cl : List (Str × Addr)) (fp : List Addr), TJ (X.blk s H scope (compEnvC scope cl C X.env) fp) c (ownB own (nm.map (·.2))) o1 is tg T)
    (ht : ∀ (s : Shared) (H : Hp) (C : Addr) (cl : List (Str × Addr)) (fp : List Addr), PTs (X.blk s H scope (compEnvC scope cl C X.env) fp) ifs (tB c o1 W0 tst))
    (hi1 : ∀ (s : Shared) (H : Hp) (C : Addr) (cl : List (Str × Addr)) (fp : List Addr), IJ (X.blk s H scope (compEnvC scope cl C X.env) fp) c o1 false W0 tg1 iter1 I1)
    (hg1 : ∀ (s : Shared) (H : Hp) (C : Addr) (cl : List (Str × Addr)) (fp : List Addr), TJ (X.blk s H scope (compEnvC scope cl C X.env) fp) c (ownB o1 vs1) o2 is1 tg1 T1)
    (ht1 : ∀ (s : Shared) (H : Hp) (C : Addr) (cl : List (Str × Addr)) (fp : List Addr), PTs (X.blk s H scope (compEnvC scope cl C X.env) fp) ifs1 (tB c o2 W0 tst1))
    (he : ∀ (s : Shared) (H : Hp) (C : Addr) (cl : List (Str × Addr)) (fp : List Addr), EX (X.blk s H scope (compEnvC scope cl C X.env) fp) c o2 .s W0 elt elt')
    (hy : X.N[i]? = some y := by rfl) (hyl : X.env.scope.names.lookup y = some .local := by rfl) (hsw : swapsWith (.ListComp elt [⟨tg, iter, ifs, 0⟩, ⟨tg1, iter1, ifs1, 0⟩] scope lcp) (some (.Name y py)) pos.line X.env = pure true := by exact sw_true rfl rfl rfl (by decide +kernel))
    (hl : i < own.length := by decide) (hs : ∀ x, foldedSetIterable iter X.env x = pure x := by intro _; rfl) (hs1 : ∀ env x, foldedSetIterable iter1 env x = pure x := by intro _ _; rfl) (hsub : ∀ j ∈ is, j ∈ nm.map (·.2) := by decide) (hsub1 : ∀ j ∈ is1, j ∈ vs1 := by decide) (hvs : ∀ j ∈ vs1, j ∈ nm.map (·.2) := by decide) (ho : w.ox own := by first | exact trivial | rfl) :
    SJ X c w own (own.set i .o) (.Assign [.Name y py] (.ListComp elt [⟨tg, iter, ifs, 0⟩, ⟨tg1, iter1, ifs1, 0⟩] scope lcp) pos) (sSet i (eLc2 I T tst I1 T1 tst1 elt' (nm.map (·.2)) vs1)) := by
  refine PS.weak (ps_setLc2 hc hN hy hyl hsw hi (blkOk_by ok) hvs hg ht hi1 hg1 ht1 he hs hs1) fun Dn σ H h => ?_
  have h2 := set_read (m := .o) i ho (.inl ⟨rfl, hl, rfl⟩) h
  exact lc2_read hsub hsub1 hvs h2
end
end Pf

set_option Elab.async false
set_option linter.all false
set_option maxRecDepth 100000
set_option maxHeartbeats 4000000
namespace Pf
open PySem PySem.Spec PyProof.Rows L2

/-! ## <, <=, >, >= : ints, or data -/
def gLtA (d e : D) : Option D := match d, e with
  | .int i, .int j => some (.bl (decide (i < j)))
  | d, e => gLtD d e
def gLeA (d e : D) : Option D := match d, e with
  | .int i, .int j => some (.bl (decide (i ≤ j)))
  | d, e => gLeD d e
def gGtA (d e : D) : Option D := match d, e with
  | .int i, .int j => some (.bl (decide (j < i)))
  | d, e => gGtD d e
def gGeA (d e : D) : Option D := match d, e with
  | .int i, .int j => some (.bl (decide (j ≤ i)))
  | d, e => gGeD d e
def rOr (r r' : R2) : R2 := fun x y H Q => r x y H Q ∨ r' x y H Q
section
variable {X : Cx} {c : Ct} {own : List Ms} {m : Md} {W : WX} {a b : Expr} {A B : SX} {pos : Pos}
theorem cmpA_ok {f : Int → Int → Bool} {g : D → D → Option D} {r : R2} (hg : OpG r m c g) : OpG (rOr (rI0 fun i j => .bl (f i j)) r) m c (fun d e => match d, e with | .int i, .int j => some (.bl (f i j)) | d, e => g d e) := by
  intro Z H φ x y d e z W σ Q w rx ry h0 h
  have other : (g d e = some z) → rOr (rI0 fun i j => .bl (f i j)) r x y H Q := fun h1 => .inr (hg Z H φ x y d e z W σ Q w rx ry h1 h)
  cases d with
  | int i =>
    cases e with
    | int j => cases h0; exact .inl ⟨i, j, rx.int, ry.int, h.nowB w⟩
    | _ => exact other h0
  | _ => exact other h0
theorem gLtA_ok : OpG (rOr (rI0 fun i j => .bl (decide (i < j))) (rCmpD c.K fun d e => PySem.W.dataLt d e)) m c gLtA := cmpA_ok gLtD_ok
theorem gLeA_ok : OpG (rOr (rI0 fun i j => .bl (decide (i ≤ j))) (rCmpD c.K fun d e => !PySem.W.dataLt e d)) m c gLeA := cmpA_ok gLeD_ok
theorem gGtA_ok : OpG (rOr (rI0 fun i j => .bl (decide (j < i))) (rCmpD c.K fun d e => PySem.W.dataLt e d)) m c gGtA := cmpA_ok gGtD_ok
theorem gGeA_ok : OpG (rOr (rI0 fun i j => .bl (decide (j ≤ i))) (rCmpD c.K fun d e => !PySem.W.dataLt d e)) m c gGeA := cmpA_ok gGeD_ok
theorem op_ltA (hu : X.A.units + 64 < cLine) : OpR X (compareOp .Lt) (rOr (rI0 fun i j => .bl (decide (i < j))) (rCmpD X.K fun d e => PySem.W.dataLt d e)) := OpR.or op_lt (op_ltD hu)
theorem op_leA (hu : X.A.units + 64 < cLine) : OpR X (compareOp .LtE) (rOr (rI0 fun i j => .bl (decide (i ≤ j))) (rCmpD X.K fun d e => !PySem.W.dataLt e d)) := OpR.or op_le (op_leD hu)
theorem op_gtA (hu : X.A.units + 64 < cLine) : OpR X (compareOp .Gt) (rOr (rI0 fun i j => .bl (decide (j < i))) (rCmpD X.K fun d e => PySem.W.dataLt e d)) := OpR.or op_gt (op_gtD hu)
theorem op_geA (hu : X.A.units + 64 < cLine) : OpR X (compareOp .GtE) (rOr (rI0 fun i j => .bl (decide (j ≤ i))) (rCmpD X.K fun d e => !PySem.W.dataLt d e)) := OpR.or op_ge (op_geD hu)
theorem x_ltA (hK : X.K = c.K) (hu : X.A.units + 64 < cLine) (ha : EX X c own .p W a A) (hb : EX X c own .p W b B) : EX X c own .o W (.Compare a [.Lt] [b] pos) (eBin gLtA A B) := x_cmp (op_ltA hu) (by rw [hK]; exact gLtA_ok) ha hb (nomark _)
theorem x_leA (hK : X.K = c.K) (hu : X.A.units + 64 < cLine) (ha : EX X c own .p W a A) (hb : EX X c own .p W b B) : EX X c own .o W (.Compare a [.LtE] [b] pos) (eBin gLeA A B) := x_cmp (op_leA hu) (by rw [hK]; exact gLeA_ok) ha hb (nomark _)
theorem x_gtA (hK : X.K = c.K) (hu : X.A.units + 64 < cLine) (ha : EX X c own .p W a A) (hb : EX X c own .p W b B) : EX X c own .o W (.Compare a [.Gt] [b] pos) (eBin gGtA A B) := x_cmp (op_gtA hu) (by rw [hK]; exact gGtA_ok) ha hb (nomark _)
theorem x_geA (hK : X.K = c.K) (hu : X.A.units + 64 < cLine) (ha : EX X c own .p W a A) (hb : EX X c own .p W b B) : EX X c own .o W (.Compare a [.GtE] [b] pos) (eBin gGeA A B) := x_cmp (op_geA hu) (by rw [hK]; exact gGeA_ok) ha hb (nomark _)
theorem b_ltA (hK : X.K = c.K) (hu : X.A.units + 64 < cLine) (ha : EX X c own .p W a A) (hb : EX X c own .p W b B) : BX X c own W (.Compare a [.Lt] [b] pos) (bCmp gLtA A B) := b_cmp (op_ltA hu) (by rw [hK]; exact gLtA_ok) ha hb (nomark _)
theorem b_leA (hK : X.K = c.K) (hu : X.A.units + 64 < cLine) (ha : EX X c own .p W a A) (hb : EX X c own .p W b B) : BX X c own W (.Compare a [.LtE] [b] pos) (bCmp gLeA A B) := b_cmp (op_leA hu) (by rw [hK]; exact gLeA_ok) ha hb (nomark _)
theorem b_gtA (hK : X.K = c.K) (hu : X.A.units + 64 < cLine) (ha : EX X c own .p W a A) (hb : EX X c own .p W b B) : BX X c own W (.Compare a [.Gt] [b] pos) (bCmp gGtA A B) := b_cmp (op_gtA hu) (by rw [hK]; exact gGtA_ok) ha hb (nomark _)
theorem b_geA (hK : X.K = c.K) (hu : X.A.units + 64 < cLine) (ha : EX X c own .p W a A) (hb : EX X c own .p W b B) : BX X c own W (.Compare a [.GtE] [b] pos) (bCmp gGeA A B) := b_cmp (op_geA hu) (by rw [hK]; exact gGeA_ok) ha hb (nomark _)

/-! ## the built-ins by name -/
variable {e e2 : Expr} {p : Pos} {S : SA}
theorem x_len (hK : X.K = c.K) (hm : X.mg "len" = none) (ha : AX X c own .p W [e] S) (hg : Gl X "len" := by rfl) (he : starEach [e] X.env = (false, eval e X.env) :: starEach [] X.env := by rfl) (hpl : (backTo pos (starEach [] X.env)).any (·.1) = false := by rfl) :
    EX X c own .o W (.Call (.Name "len" p) [e] [] pos) (eCB gLen S) := x_callB call_len (by rw [hK]; exact gLen_ok) hm PySem.boot_len ha hg (by decide) (by decide) he hpl
theorem x_sum (hK : X.K = c.K) (hc : X.calm = true) (hm : X.mg "sum" = none) (ha : AX X c own .p W [e] S) (hg : Gl X "sum" := by rfl) (he : starEach [e] X.env = (false, eval e X.env) :: starEach [] X.env := by rfl) (hpl : (backTo pos (starEach [] X.env)).any (·.1) = false := by rfl) :
    EX X c own .o W (.Call (.Name "sum" p) [e] [] pos) (eCB gSum S) := x_callB (cr_sum hc) (by rw [hK]; exact gSum_ok) hm (by decide +kernel) ha hg (by decide) (by decide) he hpl
theorem x_any (hK : X.K = c.K) (hc : X.calm = true) (hm : X.mg "any" = none) (ha : AX X c own .p W [e] S) (hg : Gl X "any" := by rfl) (he : starEach [e] X.env = (false, eval e X.env) :: starEach [] X.env := by rfl) (hpl : (backTo pos (starEach [] X.env)).any (·.1) = false := by rfl) :
    EX X c own .o W (.Call (.Name "any" p) [e] [] pos) (eCB gAny S) := x_callB (cr_any hc) (by rw [hK]; exact gAny_ok) hm (by decide +kernel) ha hg (by decide) (by decide) he hpl
theorem x_all (hK : X.K = c.K) (hc : X.calm = true) (hm : X.mg "all" = none) (ha : AX X c own .p W [e] S) (hg : Gl X "all" := by rfl) (he : starEach [e] X.env = (false, eval e X.env) :: starEach [] X.env := by rfl) (hpl : (backTo pos (starEach [] X.env)).any (·.1) = false := by rfl) :
    EX X c own .o W (.Call (.Name "all" p) [e] [] pos) (eCB gAll S) := x_callB (cr_all hc) (by rw [hK]; exact gAll_ok) hm (by decide +kernel) ha hg (by decide) (by decide) he hpl
theorem x_max1 (hK : X.K = c.K) (hc : X.calm = true) (hm : X.mg "max" = none) (ha : AX X c own .p W [e] S) (hg : Gl X "max" := by rfl) (he : starEach [e] X.env = (false, eval e X.env) :: starEach [] X.env := by rfl) (hpl : (backTo pos (starEach [] X.env)).any (·.1) = false := by rfl) :
    EX X c own .o W (.Call (.Name "max" p) [e] [] pos) (eCB gMax1 S) := x_callB (cr_max hc) (by rw [hK]; exact gMax1_ok) hm (by decide +kernel) ha hg (by decide) (by decide) he hpl
theorem x_min1 (hK : X.K = c.K) (hc : X.calm = true) (hm : X.mg "min" = none) (ha : AX X c own .p W [e] S) (hg : Gl X "min" := by rfl) (he : starEach [e] X.env = (false, eval e X.env) :: starEach [] X.env := by rfl) (hpl : (backTo pos (starEach [] X.env)).any (·.1) = false := by rfl) :
    EX X c own .o W (.Call (.Name "min" p) [e] [] pos) (eCB gMin1 S) := x_callB (cr_min hc) (by rw [hK]; exact gMin1_ok) hm (by decide +kernel) ha hg (by decide) (by decide) he hpl
theorem x_max2 (hc : X.calm = true) (hm : X.mg "max" = none) (ha : AX X c own .p W [e, e2] S) (hg : Gl X "max" := by rfl) (he : starEach [e, e2] X.env = (false, eval e X.env) :: starEach [e2] X.env := by rfl) (hpl : (backTo pos (starEach [e2] X.env)).any (·.1) = false := by rfl) :
    EX X c own .o W (.Call (.Name "max" p) [e, e2] [] pos) (eCB gMax2 S) := x_callB (call_max2 hc) gMax2_ok hm (by decide +kernel) ha hg (by decide) (by decide) he hpl
theorem x_min2 (hc : X.calm = true) (hm : X.mg "min" = none) (ha : AX X c own .p W [e, e2] S) (hg : Gl X "min" := by rfl) (he : starEach [e, e2] X.env = (false, eval e X.env) :: starEach [e2] X.env := by rfl) (hpl : (backTo pos (starEach [e2] X.env)).any (·.1) = false := by rfl) :
    EX X c own .o W (.Call (.Name "min" p) [e, e2] [] pos) (eCB gMin2 S) := x_callB (call_min2 hc) gMin2_ok hm (by decide +kernel) ha hg (by decide) (by decide) he hpl
theorem x_abs (hm : X.mg "abs" = none) (ha : AX X c own .p W [e] S) (hg : Gl X "abs" := by rfl) (he : starEach [e] X.env = (false, eval e X.env) :: starEach [] X.env := by rfl) (hpl : (backTo pos (starEach [] X.env)).any (·.1) = false := by rfl) :
    EX X c own .o W (.Call (.Name "abs" p) [e] [] pos) (eCB gAbs S) := x_callB call_abs gAbs_ok hm (by decide +kernel) ha hg (by decide) (by decide) he hpl
theorem x_list (hK : X.K = c.K) (hm : X.mg "list" = none) (ha : AX X c own .p W [e] S) (hg : Gl X "list" := by rfl) (he : starEach [e] X.env = (false, eval e X.env) :: starEach [] X.env := by rfl) (hpl : (backTo pos (starEach [] X.env)).any (·.1) = false := by rfl) :
    EX X c own .o W (.Call (.Name "list" p) [e] [] pos) (eCB gList S) := x_callT call_list_of (by rw [hK]; exact gList_ok) hm (by decide +kernel) ha hg (by decide) (by decide) he hpl
theorem x_tuple (hK : X.K = c.K) (hm : X.mg "tuple" = none) (ha : AX X c own .p W [e] S) (hg : Gl X "tuple" := by rfl) (he : starEach [e] X.env = (false, eval e X.env) :: starEach [] X.env := by rfl) (hpl : (backTo pos (starEach [] X.env)).any (·.1) = false := by rfl) :
    EX X c own .o W (.Call (.Name "tuple" p) [e] [] pos) (eCB gTuple S) := x_callT call_tuple_of (by rw [hK]; exact gTuple_ok) hm (by decide +kernel) ha hg (by decide) (by decide) he hpl
theorem x_int1 (hm : X.mg "int" = none) (ha : AX X c own .p W [e] S) (hg : Gl X "int" := by rfl) (he : starEach [e] X.env = (false, eval e X.env) :: starEach [] X.env := by rfl) (hpl : (backTo pos (starEach [] X.env)).any (·.1) = false := by rfl) :
    EX X c own .o W (.Call (.Name "int" p) [e] [] pos) (eCB gInt S) := x_callT call_int1 gInt_ok hm (by decide +kernel) ha hg (by decide) (by decide) he hpl
theorem x_sorted (hK : X.K = c.K) (hu : X.A.units + 66 < cLine) (hm : X.mg "sorted" = none) (ha : AX X c own .p W [e] S) (hg : Gl X "sorted" := by rfl) (he : starEach [e] X.env = (false, eval e X.env) :: starEach [] X.env := by rfl) (hpl : (backTo pos (starEach [] X.env)).any (·.1) = false := by rfl) :
    EX X c own .o W (.Call (.Name "sorted" p) [e] [] pos) (eCB gSorted S) := x_callB (cr_sortedD hu) (by rw [hK]; exact gSorted_ok) hm (by decide +kernel) ha hg (by decide) (by decide) he hpl
end
theorem hu64 {k : Nat} {A : Around} (r : Room k A) : A.units + 64 < cLine := r.units
theorem hu65 {k : Nat} {A : Around} (r : Room k A) : A.units + 65 < cLine := by have := r.un; omega
theorem hu66 {k : Nat} {A : Around} (r : Room k A) : A.units + 66 < cLine := by have := r.un; omega
end Pf

set_option Elab.async false
set_option linter.all false
set_option maxRecDepth 100000
set_option maxHeartbeats 4000000
namespace Pf
open PySem PySem.Spec PyProof.Rows L2

/-! ## what is looked at with more frozen than stays frozen: answers that are flat -/
theorem Wf.back {K : PySem.W.Frag} {f : Addr} {Z Z1 Z' H H' : Hp} {φ φ1 : Fd} (w : Wf K f Z H φ) (k : Sub Z Z1) (e : Ext f Z1 H Z' H') (w' : Wf K f Z' H' φ1) : Ext f Z H Z H' ∧ Wf K f Z H' φ1 := by
  refine ⟨⟨fun _ _ q => q, e.h, e.k, fun _ _ q => q, e.d⟩, ⟨fun a o q => e.h a o (fun z => by rw [z, w.zf] at q; cases q) (w.sub a o q), w.zf, ?_, w'.ok⟩⟩
  obtain ⟨s, h1, h2⟩ := w.feed
  obtain ⟨s', h1', h2'⟩ := w'.feed
  obtain ⟨o', h3, hr⟩ := e.d _ h2
  rw [h2'] at h3
  cases h3
  refine ⟨s', ?_, h2'⟩
  rcases h1' with h1' | ⟨k1, k2⟩
  · exact .inl h1'
  · rcases h1 with ⟨_, h1⟩ | ⟨g1, g2⟩
    · rcases hr with hr | ⟨x, vs, us, hr, _⟩
      · exact absurd (hr.symm.trans k2) (h1 _ _)
      · exact absurd hr (h1 _ _)
    · have hs : s'.1 = s.1 := by
        rcases hr with hr | ⟨x, vs, us, hr, hr'⟩
        · rw [k2, g2] at hr; injection hr with hr; injection hr with hr _; injection hr
        · rw [g2] at hr; rw [k2] at hr'; injection hr with hr; injection hr with hr _; injection hr' with hr'; injection hr' with hr' _; rw [← hr'] at hr; injection hr with hr; exact hr.symm
      refine .inr ⟨?_, k2⟩
      have h4 := e.z _ _ (k _ _ g1)
      rw [hs] at k1 ⊢
      rw [h4] at k1
      rw [g1, Option.some.inj k1]
def bStill (A : SB) : SB := fun ρ φ => (A ρ φ).still
def D.flatB : D → Bool
  | .non => true
  | .bl _ => true
  | .int _ => true
  | .str _ => true
  | _ => false
def eStill (A : SX) : SX := fun ρ φ => match A ρ φ with
  | .ok d φ1 => if d.flatB = true then .ok d φ1 else .bad
  | _ => .bad
theorem Rep.flatB {K : PySem.W.Frag} {f : Addr} {Z Z' : Hp} {v : V} {d : D} (r : Rep K f Z v d) (h : d.flatB = true) : Rep K f Z' v d := by
  cases r with
  | non => exact .non
  | bl b => exact .bl b
  | int b => exact .int b
  | str b => exact .str b
  | cel _ q => cases q <;> cases h
  | tup _ _ => cases h
  | feed => cases h
theorem D.flatB_mt {d : D} (h : d.flatB = true) : d.mt = false := by cases d <;> first | rfl | cases h
section
variable {X : Cx} {c : Ct} {own : List Ms} {m : Md} {W : WX}
theorem b_scope (is : List Nat) (hp : ∀ i ∈ is, own[i]? ≠ some .p) {e : Expr} {A : SB} (h : BX X c (is.foldr (fun i o => o.set i .s) own) W0 e A) : BX X c own W e (bStill A) := by
  refine PT.weak h ?_
  rintro σ H Q ⟨Z, ρ, φ, R, h⟩
  obtain ⟨Z1, k, R1⟩ := R.frzs is hp
  refine ⟨Z1, ρ, φ, R1, ?_⟩
  unfold bStill at h
  cases hA : A ρ φ with
  | bad => rw [hA] at h; exact h.elim
  | ex _ _ _ => rw [hA] at h; exact h.elim
  | ok b φ1 =>
    rw [hA] at h
    intro Z' H' e' w'
    obtain ⟨e2, w2⟩ := R.wf.back k e' w'
    exact h Z H' e2 w2
theorem x_scope (is : List Nat) (hp : ∀ i ∈ is, own[i]? ≠ some .p) {e : Expr} {A : SX} {m' : Md} (h : EX X c (is.foldr (fun i o => o.set i .s) own) m' W0 e A) : EX X c own m W e (eStill A) := by
  refine PE.weak h ?_
  rintro σ H Q ⟨Z, ρ, φ, R, h⟩
  obtain ⟨Z1, k, R1⟩ := R.frzs is hp
  refine ⟨Z1, ρ, φ, R1, ?_⟩
  unfold eStill at h
  cases hA : A ρ φ with
  | bad => rw [hA] at h; exact h.elim
  | ex _ _ _ => rw [hA] at h; exact h.elim
  | ok d φ1 =>
    rw [hA] at h
    intro v Z' H' e' w' r
    have h' : Post c m W (if d.flatB = true then .ok d φ1 else .bad) σ Z H Q := h
    by_cases hf : d.flatB = true
    · rw [if_pos hf] at h'
      obtain ⟨e2, w2⟩ := R.wf.back k e' w'
      exact h' v Z H' e2 w2 (Res.of_flat ((r.flat (D.flatB_mt hf)).flatB hf) (D.flatB_mt hf))
    · rw [if_neg hf] at h'
      exact h'.elim
end

/-! ## the law's own feed; a def that calls itself -/
section
variable {P : Program} {w : World} {K : PySem.W.Frag} {mg : Str → Option Value} {base : Heap}
theorem feed_read {vs : List V} {H : Hp} {Q : VK} {E : XK} (h : spFeed K vs H Q E) :
    tSeq (tRet (tLst (tCons (tCB (fun xs H Q => ∃ p ys, xs = [.ref p] ∧ (SqL K H p ys ∨ SqT K H p ys) ∧ ∀ l, H l = none → Q (.ref l) (upd H l (.lst ys))) (tCons (tVar 0) tNil)) (tCons (tC (.int 0)) (tCons (tC (.int 0)) (tCons (tC (.int 1)) tNil)))))) tNext { nx := fun _ H' => Q .non H', rt := Q } (L2.start ["script"] vs) H := by
  obtain ⟨a, ns, rfl, hs, q⟩ := h
  refine ⟨.ref a, rfl, a, ns.map V.int, rfl, .inl hs, fun l hl => ?_⟩
  refine ⟨show 4 ≤ sizeLine by decide, fun p hp => ?_⟩
  have hpl : p ≠ l := fun e => by rw [e, upd_same] at hp; cases hp
  rw [upd_ne hpl] at hp
  exact q l p hl hp hpl
/-- at the bottom of a recursion -/
theorem fn_bad {cls : Str → Option (Addr × List Str)} {f : Addr} {fd : FuncData} {ps : List Str} {k : Nat} {pm : List Bool} (m : Md) : FnOk P w K mg base (L2.CX P w) k f fd ps (spF cls K pm m fun _ _ => .bad) :=
  have no : ∀ {vs : List V} {H : Hp} {Q : VK} {E : XK}, spF cls K pm m (fun _ _ => .bad) vs H Q E → False := fun h => by
    obtain ⟨f, Z, ds, φ, _, rs, h⟩ := h
    exact h
  ⟨fun _ _ _ _ h => (no h).elim, fun _ _ _ _ _ _ _ _ _ _ _ _ _ h => (no h).elim⟩
end

/-! ## a part of a body as a body of its own: what stood ahead is only looked at; behind it, what the part has made is forgotten, but for flat data -/
def subC (c : Ct) (Z : Hp) (ρ : En) (σ : L2.St) (H : Hp) : Ct := ⟨c.K, c.f, Z, H, c.cls, σ, ρ⟩
def Ms.inn : Ms → Ms
  | .o => .p
  | .p => .p
  | .s => .r
  | .r => .r
def Ms.pin : Option Ms → Bool
  | some .p => true
  | some .r => true
  | _ => false
def ownIn (own : List Ms) : List Ms := own.map Ms.inn
def ownOut (own own1 : List Ms) : List Ms := own.mapIdx fun i m => if Ms.pin own1[i]? = true then m else .s
def flatO : Option D → Option D
  | some d => if d.flatB = true then some d else none
  | none => none
def enOut (own1 : List Ms) (ρ : En) : En := ρ.mapIdx fun i x => if Ms.pin own1[i]? = true then x else flatO x
theorem pin_iff {x : Option Ms} : Ms.pin x = true ↔ x = some .p ∨ x = some .r := by
  rcases x with _ | (_ | _ | _ | _) <;> simp [Ms.pin]
theorem Rl.enter {c : Ct} {own : List Ms} {Z : Hp} {ρ : En} {φ : Fd} {σ : L2.St} {H : Hp} (R : Rl c own Z ρ φ σ H) : Rl (subC c Z ρ σ H) (ownIn own) Z ρ φ σ H := by
  have get : ∀ {i : Nat} {x : Ms}, (ownIn own)[i]? = some x → ∃ y, own[i]? = some y ∧ x = y.inn := fun {i x} h => by
    unfold ownIn at h
    rw [List.getElem?_map] at h
    cases e : own[i]? with
    | none => rw [e] at h; cases h
    | some y => rw [e] at h; cases h; exact ⟨y, rfl, rfl⟩
  have put : ∀ {i : Nat} {y : Ms}, own[i]? = some y → (ownIn own)[i]? = some y.inn := fun {i y} h => by
    unfold ownIn
    rw [List.getElem?_map, h] <;> rfl
  have no : ∀ {i : Nat}, (ownIn own)[i]? ≠ some .o := fun {i} h => by
    obtain ⟨y, _, e⟩ := get h
    cases y <;> cases e
  refine ⟨R.wf, Ext.refl, R.len, fun i d h1 _ h3 => ?_, fun i d _ h2 => absurd h2 no, fun i j a d e _ h1 => absurd h1 no, fun i d h1 _ => ⟨h1, rfl⟩, fun i d h1 _ => R.look h1⟩
  exact R.sh i d h1 (fun e => h3 (put e)) (fun e => h3 (put e))
theorem Rl.leave {c : Ct} {own own1 : List Ms} {Z0 Z1 : Hp} {ρ0 ρ1 : En} {φ0 φ1 : Fd} {σ0 σ1 : L2.St} {H0 H1 : Hp} (R0 : Rl c own Z0 ρ0 φ0 σ0 H0) (R1 : Rl (subC c Z0 ρ0 σ0 H0) own1 Z1 ρ1 φ1 σ1 H1) :
    Rl c (ownOut own own1) Z0 (enOut own1 ρ1) φ1 σ1 H1 := by
  obtain ⟨e2, w2⟩ := R0.wf.back Sub.refl R1.ext R1.wf
  have getE : ∀ {i : Nat} {d : D}, (enOut own1 ρ1)[i]? = some (some d) → ρ1[i]? = some (some d) ∧ (Ms.pin own1[i]? = true ∨ (Ms.pin own1[i]? = false ∧ d.flatB = true)) := fun {i d} h => by
    unfold enOut at h
    rw [List.getElem?_mapIdx] at h
    cases e : ρ1[i]? with
    | none => rw [e] at h; cases h
    | some x =>
      rw [e] at h
      have h' : (if Ms.pin own1[i]? = true then x else flatO x) = some d := Option.some.inj h
      by_cases hp : Ms.pin own1[i]? = true
      · rw [if_pos hp] at h'
        rw [h']
        exact ⟨rfl, .inl hp⟩
      · rw [if_neg hp] at h'
        cases x with
        | none => cases h'
        | some y =>
          have h'' : (if y.flatB = true then some y else none) = some d := h'
          by_cases hf : y.flatB = true
          · rw [if_pos hf] at h''
            cases h''
            exact ⟨rfl, .inr ⟨by simpa using hp, hf⟩⟩
          · rw [if_neg hf] at h''; cases h''
  have getO : ∀ {i : Nat} {x : Ms}, (ownOut own own1)[i]? = some x → (Ms.pin own1[i]? = true ∧ own[i]? = some x) ∨ (Ms.pin own1[i]? = false ∧ x = .s) := fun {i x} h => by
    unfold ownOut at h
    rw [List.getElem?_mapIdx] at h
    cases e : own[i]? with
    | none => rw [e] at h; cases h
    | some y =>
      rw [e] at h
      have h' : (if Ms.pin own1[i]? = true then y else .s) = x := Option.some.inj h
      by_cases hp : Ms.pin own1[i]? = true
      · rw [if_pos hp] at h'; exact .inl ⟨hp, by rw [h']⟩
      · rw [if_neg hp] at h'; exact .inr ⟨by simpa using hp, h'.symm⟩
  have putO : ∀ {i : Nat} {x : Ms}, Ms.pin own1[i]? = true → own[i]? = some x → (ownOut own own1)[i]? = some x := fun {i x} hp h => by
    unfold ownOut
    rw [List.getElem?_mapIdx, h]
    show some (if Ms.pin own1[i]? = true then x else .s) = some x
    rw [if_pos hp]
  have pins : ∀ {i : Nat} {d : D}, Ms.pin own1[i]? = true → ρ1[i]? = some (some d) → ρ0[i]? = some (some d) ∧ σ1[i]? = σ0[i]? := fun {i d} hp h => R1.pn i d h (pin_iff.mp hp)
  refine ⟨w2, R0.ext.trans e2, ?_, fun i d h1 h2 h3 => ?_, fun i d h1 h2 => ?_, fun i j a d e hij h1 h2 h3 h4 h5 h6 h7 h8 => ?_, fun i d h1 h2 => ?_, fun i d h1 h2 => ?_⟩
  · unfold enOut
    rw [List.length_mapIdx]
    exact R1.len
  · obtain ⟨g1, g2⟩ := getE h1
    rcases g2 with hp | ⟨hp, hf⟩
    · obtain ⟨k1, k2⟩ := pins hp g1
      obtain ⟨v, hv, r⟩ := R0.sh i d k1 (fun e => h2 (putO hp e)) (fun e => h3 (putO hp e))
      exact ⟨v, by rw [k2]; exact hv, r⟩
    · by_cases ho : own1[i]? = some .o
      · obtain ⟨v, hv, r⟩ := R1.ow i d g1 ho
        exact ⟨v, hv, (r.flat (D.flatB_mt hf)).flatB hf⟩
      · have hpp : own1[i]? ≠ some .p := fun e => by rw [e] at hp; cases hp
        obtain ⟨v, hv, r⟩ := R1.sh i d g1 ho hpp
        exact ⟨v, hv, r.flatB hf⟩
  · rcases getO h2 with ⟨hp, ho⟩ | ⟨_, e⟩
    · obtain ⟨g1, _⟩ := getE h1
      obtain ⟨k1, k2⟩ := pins hp g1
      obtain ⟨v, hv, r⟩ := R0.ow i d k1 ho
      exact ⟨v, by rw [k2]; exact hv, r.mono e2⟩
    · cases e
  · rcases getO h1 with ⟨hp, ho⟩ | ⟨_, q⟩
    · rcases getO h2 with ⟨hp', ho'⟩ | ⟨_, q⟩
      · obtain ⟨k1, k2⟩ := pins hp (getE h3).1
        obtain ⟨k3, k4⟩ := pins hp' (getE h5).1
        rw [k2] at h7
        rw [k4] at h8
        exact R0.ne i j a d e hij ho ho' k1 h4 k3 h6 h7 h8
      · cases q
    · cases q
  · obtain ⟨g1, _⟩ := getE h1
    have hh : Ms.pin own1[i]? = true ∧ (own[i]? = some .p ∨ own[i]? = some .r) := by
      rcases h2 with h2 | h2 <;> rcases getO h2 with ⟨hp, ho⟩ | ⟨_, q⟩
      · exact ⟨hp, .inl ho⟩
      · cases q
      · exact ⟨hp, .inr ho⟩
      · cases q
    obtain ⟨k1, k2⟩ := pins hh.1 g1
    obtain ⟨n1, n2⟩ := R0.pn i d k1 hh.2
    exact ⟨n1, by rw [k2]; exact n2⟩
  · rcases getO h2 with ⟨hp, ho⟩ | ⟨_, q⟩
    · obtain ⟨g1, _⟩ := getE h1
      obtain ⟨k1, k2⟩ := pins hp g1
      obtain ⟨v, hv, r⟩ := R0.pk i d k1 ho
      exact ⟨v, by rw [k2]; exact hv, r⟩
    · cases q
theorem execs_app {env : Env} : ∀ (a b : List Stmt), execs (a ++ b) env = (do match ← execs a env with | .next => execs b env | f => pure f)
  | [], b => by
    show execs b env = _
    rw [show execs [] env = pure Flow.next from rfl, pure_bind]
  | st :: a, b => by
    rw [List.cons_append, execs_cons, execs_cons, bind_assoc]
    refine congrArg (bind _) (funext fun f => ?_)
    cases f with
    | next => exact execs_app a b
    | _ => rw [pure_bind]
theorem pss_app {X : Cx} {a b : List Stmt} {t u : TS} (h1 : PSs X a t) (h2 : PSs X b u) : PSs X (a ++ b) (tSeq t u) := by
  refine ⟨fun pins s σ H D I h => ?_⟩
  rw [execs_app]
  refine wpAny_bind (thn (h1.run pins s σ H { D with nx := u D } I h) fun f s1 q => ?_)
  cases f with
  | next =>
    obtain ⟨σ', H', I', q⟩ := q
    exact h2.run pins s1 σ' H' D I' q
  | ret v => exact wpAny_pure q
  | brk => exact wpAny_pure q
  | cont => exact wpAny_pure q
def sScope (own1 : List Ms) (A B : SS) : SS := fun ρ φ => match A ρ φ with
  | .nx ρ1 φ1 => B (enOut own1 ρ1) φ1
  | .rt d φ1 => .rt d φ1
  | _ => .bad
section
variable {X : Cx} {c : Ct} {w : Ow} {own own1 on : List Ms}
theorem s_scope (n : Nat) {sts : List Stmt} {A B : SS} (h1 : ∀ (Z : Hp) (ρ : En) (σ : L2.St) (H : Hp), SJs X (subC c Z ρ σ H) ⟨w.m, W0, fun _ => True, []⟩ (ownIn own) own1 (sts.take n) A) (h2 : SJs X c w (ownOut own own1) on (sts.drop n) B) :
    SJs X c w own on sts (sScope own1 A B) := by
  have D1 := PSs.later (ι := Hp × En × L2.St × Hp) fun i => h1 i.1 i.2.1 i.2.2.1 i.2.2.2
  have D2 := pss_app D1 h2
  rw [List.take_append_drop] at D2
  refine PSs.weak D2 ?_
  rintro Dn σ H ⟨Z, ρ, φ, R0, h⟩
  refine ⟨(Z, ρ, σ, H), Z, ρ, φ, R0.enter, ?_⟩
  unfold sScope at h
  cases hA : A ρ φ with
  | nx ρ1 φ1 =>
    rw [hA] at h
    intro σ1 Z1 H1 k R1
    exact ⟨Z, enOut own1 ρ1, φ1, R0.leave R1, h⟩
  | rt d φ1 =>
    rw [hA] at h
    intro v Z' H' e' w' r
    exact h v Z' H' (R0.ext.trans e') w' (Res.start r R0.ext.k)
  | bk _ _ => rw [hA] at h; exact h.elim
  | ct _ _ => rw [hA] at h; exact h.elim
  | ex _ _ _ _ => rw [hA] at h; exact h.elim
  | bad => rw [hA] at h; exact h.elim
end
end Pf

set_option Elab.async false
set_option linter.all false
set_option maxRecDepth 100000
set_option maxHeartbeats 4000000

/-! ## max and min of two things that are compared as data -/
namespace PySem.W
open PySem PyProof.Rows
section
variable {prog : Program} {w : World} {A : Around} {E : Value → Shared → Prop} {s : Shared}
theorem call_max_twoH {a b : Value} {d e : PyData} {as bs : List Addr} {Q : Value → Shared → Prop} (hh : A.handled = none) (ra : Reads s.heap a d as) (rb : Reads s.heap b e bs)
    (al : AlikeAll [d, e]) (hu : A.units + 1 + PyData.depthAll [d, e] < cLine)
    (h : ∀ h' tk, (∀ c o, s.heap.get? c = some o → h'.get? c = some o) → Q (if dataLt d e then b else a) { s with heap := h', toks := tk }) :
    wpAny (model prog w) A (call (.builtin "max") [a, b]) Q E s := by
  have hname : (toString "max" ++ toString ".loop" : String) = "max.loop" := by decide
  have hT : (s.heap.push { cls := .type "tuple", data := .seq #[a, b] }).IsTuple s.heap.objs.size #[a, b] := ⟨_, Heap.get?_push_size _ rfl, rfl, 0, rfl⟩
  have old : ∀ c o, s.heap.get? c = some o → (s.heap.push { cls := .type "tuple", data := .seq #[a, b] }).get? c = some o := fun c o e => Heap.get?_push_of_some _ e
  have hr : ReadsAll (s.heap.push { cls := .type "tuple", data := .seq #[a, b] }) [a, b] [d, e] (as ++ (bs ++ [])) := .cons (reads_keeps old ra) (.cons (reads_keeps old rb) .nil)
  refine call_function_tree F.kind_max F.plain_max F.entry_max (F.args_max2 _ _) ?_
  show wpAny _ A.in1 (Builtin.Builtins.bindParams "max" ["key", "default"] 0 ⟨[], []⟩ >>= _) _ _ s
  refine wpAny_bind (wpAny_of_eq (show Builtin.Builtins.bindParams "max" ["key", "default"] 0 ⟨[], []⟩ = pure [none, none] from rfl) ?_)
  show wpAny _ A.in1 (newTuple [a, b] >>= _) _ _ s
  refine wpAny_bind (wpAny_newObj_type ?_)
  refine wpAny_bind (iter_tupleW (A := A.in1) hh hT fun s₂ e2 W hst hfp hw hk => ?_)
  refine wpAny_bind (wpAny_newObj_type ?_)
  have hSf : s₂.heap.objs.size ∉ _ := fun hm => Nat.lt_irrefl _ (hfp _ hm)
  rw [hname]
  refine wpAny_pure ⟨plainId_quiet F.plain_max_loop _, codeAny_max_loop_firstH W _ hw _ (cmpIn_gt (A := A.in1) hr al (by show A.units + 1 + _ < _; exact hu)) s₂.heap.objs.size hSf (fresh_in hk) _ (show 0 < 2 by decide) (fun b o e => Heap.get?_push_of_some _ (hk b o e)) (W.frame 0 s₂ _ s₂.toks hst (Nat.le_refl _) fun b _ o e => Heap.get?_push_of_some _ e) (Heap.get?_push_size _ rfl) fun v s' hP hm => ?_⟩
  obtain ⟨h', tk, rfl, hk'⟩ := moved_old e2 rfl (Moved.drop_new (tk := s₂.toks) hm (Nat.le_refl _))
  have hv : v = if dataLt d e then b else a := by
    cases hc : dataLt d e <;> simp [argBest, hc] at hP <;> simp [hP]
  rw [hv]
  exact h h' tk fun c o e => hk' c o (old c o e)
end
end PySem.W

namespace Pf
open PySem PySem.Spec PyProof.Rows L2
section
variable {X : Cx} {c : Ct} {own : List Ms} {m : Md} {W : WX} {a b : Expr} {A B : SX} {pos : Pos}
def alk2 (d e : PyData) : Bool := PySem.W.alike d d && PySem.W.alike d e && PySem.W.alike e d && PySem.W.alike e e
def rMax2D (K : PySem.W.Frag) : List V → Hp → VK → Prop := fun xs H Q => ∃ x y d e, xs = [x, y] ∧ Dp K H x d ∧ Dp K H y e ∧ alk2 d e = true ∧ SeqAt.shaped d = true ∧ SeqAt.shaped e = true ∧ d ≠ .none ∧ e ≠ .none ∧ Q (if PySem.W.dataLt d e then y else x) H
theorem alk2_ok {d e : PyData} (h : alk2 d e = true) (h1 : d ≠ .none) (h2 : e ≠ .none) : PySem.W.AlikeAll [d, e] := by
  unfold alk2 at h
  simp only [Bool.and_eq_true] at h
  obtain ⟨⟨⟨a1, a2⟩, a3⟩, a4⟩ := h
  refine ⟨fun x hx y hy => ?_, fun x hx => ?_⟩
  · rcases List.mem_cons.mp hx with rfl | hx
    · rcases List.mem_cons.mp hy with rfl | hy
      · exact a1
      · rw [List.mem_singleton.mp hy]; exact a2
    · rw [List.mem_singleton.mp hx]
      rcases List.mem_cons.mp hy with rfl | hy
      · exact a3
      · rw [List.mem_singleton.mp hy]; exact a4
  · rcases List.mem_cons.mp hx with rfl | hx
    · exact h1
    · rw [List.mem_singleton.mp hx]; exact h2
theorem shaped_dep {d : PyData} (h : SeqAt.shaped d = true) : d.depth ≤ 64 := by
  unfold SeqAt.shaped at h
  rw [Bool.and_eq_true, decide_eq_true_eq] at h
  exact h.2
theorem call_max2D (hc : X.calm = true) (hu : X.A.units + 66 < cLine) : CallR X (.builtin "max") (rMax2D X.K) := by
  intro pins s σ H xs us Q I r h
  obtain ⟨x, y, d, e, rfl, hd, he, al, sd, se, n1, n2, q⟩ := h
  obtain ⟨u, w', rfl, rx, ry⟩ := vals2 r
  obtain ⟨as, r1⟩ := Dp.reads I d x u hd rx
  obtain ⟨bs, r2⟩ := Dp.reads I e y w' he ry
  have hdep : PyData.depthAll [d, e] ≤ 64 := by
    simp only [PyData.depthAll]
    have := shaped_dep sd
    have := shaped_dep se
    omega
  refine PySem.W.call_max_twoH (I.ok.hd hc) r1 r2 (alk2_ok al n1 n2) (by omega) fun h' tk k => ⟨_, H, I.kept k, ?_, q⟩
  cases PySem.W.dataLt d e with
  | true => rw [if_pos rfl, if_pos rfl]; exact ry
  | false => rw [if_neg Bool.false_ne_true, if_neg Bool.false_ne_true]; exact rx
/-! built-ins that hand on what they are given -/
def CallGS (r : List V → Hp → VK → Prop) (m : Md) (c : Ct) (g : List D → Option D) : Prop :=
  ∀ (Z H : Hp) (φ : Fd) (xs : List V) (ds : List D) (z : D) (W : WX) (σ : L2.St) (Q : VK), Wf c.K c.f Z H φ → RAll .s c.K c.f H Z H xs ds → g ds = some z → Post c m W (.ok z φ) σ Z H Q → r xs H Q
theorem cb_coreS {r : List V → Hp → VK → Prop} {g : List D → Option D} {A : SA} (hg : CallGS r m c g) {σ : L2.St} {H : Hp} {Q : VK} (h : tE c own m W (eCB g A) σ H Q) : tCB r (tA c own .s W A) σ H Q := by
  obtain ⟨Z, ρ, φ, R, h⟩ := h
  refine ⟨Z, ρ, φ, R, PostA.bindE h fun ds φ1 xs Z1 H1 e1 w1 r1 h1 => ?_⟩
  obtain ⟨z, hz, h3⟩ := ofO_ok (E := fun o => Post c m W o σ Z1 H1 Q) h1 fun z => z
  exact hg Z1 H1 φ1 xs ds z W σ Q w1 (r1.any (by decide)) hz h3
theorem x_callBS {id : String} {r : List V → Hp → VK → Prop} {g : List D → Option D} {x : Str} {p : Pos} {e : Expr} {es : List Expr} {A : SA} (hc : CallR X (.builtin id) r) (hG : CallGS r m c g) (hm : X.mg x = none) (hv : bootBuiltins x = some (.builtin id)) (ha : AX X c own .s W (e :: es) A)
    (hg : Gl X x := by rfl) (hn : x ≠ "__name__" := by decide) (hdb : (x == ("__debug__" : Str)) = false := by decide)
    (he : starEach (e :: es) X.env = (false, eval e X.env) :: starEach es X.env := by rfl) (hpl : (backTo pos (starEach es X.env)).any (·.1) = false := by rfl) : EX X c own m W (.Call (.Name x p) (e :: es) [] pos) (eCB g A) :=
  PE.weak (pe_callB hc hg hm hv ha hn hdb he hpl) fun _ _ _ h => cb_coreS hG h
def gMax2D : List D → Option D
  | [d, e] => if alk2 d.py e.py && d.shp && e.shp && okLt d e && okLt e d then some (if ltD d e then e else d) else none
  | _ => none
theorem gMax2D_ok : CallGS (rMax2D c.K) .s c gMax2D := by
  intro Z H φ xs ds z W σ Q w r hg h
  match ds, hg, r with
  | [d, e], hg, r =>
    obtain ⟨hs, rfl⟩ := ifs hg
    simp only [Bool.and_eq_true] at hs
    obtain ⟨⟨⟨⟨h1, h2⟩, h3⟩, h4⟩, h5⟩ := hs
    obtain ⟨x, y, rfl, rx, ry⟩ := r.two'
    have k1 := okLt_ok h4
    have k2 := okLt_ok h5
    refine ⟨x, y, d.py, e.py, rfl, ?_, ?_, h1, h2, h3, k1.2.2.2, k2.2.2.2, ?_⟩
    · exact (show Res .p c.K c.f H Z H x d from .inl rx).dp w (SeqAt.canLay_of_shaped h2)
    · exact (show Res .p c.K c.f H Z H y e from .inl ry).dp w (SeqAt.canLay_of_shaped h3)
    · have : PySem.W.dataLt d.py e.py = ltD d e := rfl
      rw [this]
      by_cases hc : ltD d e = true
      · rw [if_pos hc] at h ⊢; exact h.now w ry
      · rw [if_neg hc] at h ⊢; exact h.now w rx
theorem x_max2S {e e2 : Expr} {p : Pos} {S : SA} (hK : X.K = c.K) (hc : X.calm = true) (hu : X.A.units + 66 < cLine) (hm : X.mg "max" = none) (ha : AX X c own .s W [e, e2] S) (hg : Gl X "max" := by rfl) (he : starEach [e, e2] X.env = (false, eval e X.env) :: starEach [e2] X.env := by rfl) (hpl : (backTo pos (starEach [e2] X.env)).any (·.1) = false := by rfl) :
    EX X c own .s W (.Call (.Name "max" p) [e, e2] [] pos) (eCB gMax2D S) := x_callBS (call_max2D hc hu) (by rw [hK]; exact gMax2D_ok) hm (by decide +kernel) ha hg (by decide) (by decide) he hpl
end
end Pf

set_option Elab.async false
set_option linter.all false
set_option maxRecDepth 100000
set_option maxHeartbeats 4000000
namespace Pf
open PySem PySem.Spec PyProof.Rows L2

/-! ## dicts whose keys are ints and texts -/
def valD (l : List (Key × D)) (k : Key) : Option D := (l.find? fun kv => decide (kv.1 = k)).map (·.2)
def putD (l : List (Key × D)) (k : Key) (v : D) : List (Key × D) :=
  if (l.any fun kv => decide (kv.1 = k)) = true then l.map (fun kv => if kv.1 = k then (kv.1, v) else kv) else l ++ [(k, v)]
def mergeD (l more : List (Key × D)) : List (Key × D) := more.foldl (fun acc kv => putD acc kv.1 kv.2) l
def keyD : D → Option Key
  | .int i => some (.inl i)
  | .str x => some (.inr x)
  | _ => none
section
variable {K : PySem.W.Frag} {f : Addr} {Z : Hp}
theorem KReps.length : ∀ {v : List (Key × V)} {d : List (Key × D)}, KReps K f Z v d → v.length = d.length
  | _, _, .nil => rfl
  | _, _, .cons _ s => by simp [s.length]
theorem KReps.app : ∀ {v v' : List (Key × V)} {d d' : List (Key × D)}, KReps K f Z v d → KReps K f Z v' d' → KReps K f Z (v ++ v') (d ++ d')
  | _, _, _, _, .nil, s => s
  | _, _, _, _, .cons r t, s => .cons r (t.app s)
theorem KReps.hit : ∀ {v : List (Key × V)} {d : List (Key × D)} {k : Key} {z : D}, KReps K f Z v d → valD d k = some z → ∃ y, valV v k = some y ∧ Rep K f Z y z
  | _, _, k, z, .nil, e => by cases e
  | _, _, k, z, .cons (k := k0) (v := y0) (d := d0) (r := r) (s := s) q t, e => by
    by_cases h : k0 = k
    · have e1 : valD ((k0, d0) :: s) k = some d0 := by simp [valD, h]
      rw [e1] at e
      cases e
      exact ⟨y0, valV_pos (p := (k0, y0)) h, q⟩
    · have e1 : valD ((k0, d0) :: s) k = valD s k := by simp [valD, h]
      rw [e1] at e
      obtain ⟨y, h1, h2⟩ := KReps.hit (k := k) (z := z) t e
      exact ⟨y, by rw [valV_neg (p := (k0, y0)) h]; exact h1, h2⟩
theorem KReps.miss : ∀ {v : List (Key × V)} {d : List (Key × D)} {k : Key}, KReps K f Z v d → valD d k = none → valV v k = none
  | _, _, k, .nil, e => rfl
  | _, _, k, .cons (k := k0) (v := y0) (d := d0) (r := r) (s := s) q t, e => by
    by_cases h : k0 = k
    · have e1 : valD ((k0, d0) :: s) k = some d0 := by simp [valD, h]
      rw [e1] at e
      cases e
    · have e1 : valD ((k0, d0) :: s) k = valD s k := by simp [valD, h]
      rw [e1] at e
      rw [valV_neg (p := (k0, y0)) h]
      exact KReps.miss t e
theorem KReps.any : ∀ {v : List (Key × V)} {d : List (Key × D)} (k : Key), KReps K f Z v d → (v.any fun kv => decide (kv.1 = k)) = d.any fun kv => decide (kv.1 = k)
  | _, _, _, .nil => rfl
  | _, _, k, .cons (r := r) (s := s) q t => by rw [List.any_cons, List.any_cons, KReps.any k t]
theorem KReps.over {y : V} {x : D} {k : Key} (h : Rep K f Z y x) : ∀ {v : List (Key × V)} {d : List (Key × D)}, KReps K f Z v d → KReps K f Z (v.map fun kv => if kv.1 = k then (kv.1, y) else kv) (d.map fun kv => if kv.1 = k then (kv.1, x) else kv)
  | _, _, .nil => .nil
  | _, _, .cons (k := k0) (v := y0) (d := d0) q t => by
    rw [List.map_cons, List.map_cons]
    by_cases e : k0 = k
    · rw [if_pos e, if_pos e]; exact .cons h (KReps.over h t)
    · rw [if_neg e, if_neg e]; exact .cons q (KReps.over h t)
theorem KReps.put {v : List (Key × V)} {d : List (Key × D)} {k : Key} {y : V} {x : D} (r : KReps K f Z v d) (h : Rep K f Z y x) : KReps K f Z (putK v k y) (putD d k x) := by
  unfold putK putD
  rw [r.any k]
  split
  · exact r.over h
  · exact r.app (.cons h .nil)
theorem KReps.merge : ∀ {m : List (Key × V)} {n : List (Key × D)} {v : List (Key × V)} {d : List (Key × D)}, KReps K f Z m n → KReps K f Z v d → KReps K f Z (mergeK v m) (mergeD d n)
  | _, _, _, _, .nil, r => r
  | (k, y) :: m, (_, x) :: n, v, d, .cons q t, r => show KReps K f Z (mergeK (putK v k y) m) (mergeD (putD d k x) n) from KReps.merge t (r.put q)
end
theorem keyD_rep {m : Md} {K : PySem.W.Frag} {f : Addr} {Z H H0 : Hp} {v : V} {d : D} {k : Key} (r : Res m K f H0 Z H v d) (h : keyD d = some k) : v = kV k := by
  cases d with
  | int i => cases h; exact r.int
  | str x => cases h; exact r.str
  | _ => cases h
/-! ### displays -/
abbrev SP := En → Fd → O (List (Key × D))
def pNil : SP := fun _ φ => .ok [] φ
def pCons (A B : SX) (P : SP) : SP := fun ρ φ => (A ρ φ).bind fun k φ1 => (B ρ φ1).bind fun v φ2 => match keyD k with
  | some k => (P ρ φ2).bind fun l φ3 => .ok ((k, v) :: l) φ3
  | none => .bad
def PostP (c : Ct) (W : WX) (o : O (List (Key × D))) (σ : L2.St) (Z H : Hp) (Q : List (V × V) → Hp → Prop) : Prop :=
  match o with
  | .ok l φ => ∀ kvs Z' H', Ext c.f Z H Z' H' → Wf c.K c.f Z' H' φ → KReps c.K c.f Z' kvs l → Q (kvs.map fun kv => (kV kv.1, kv.2)) H'
  | .ex x l φ => ∀ cls dx Z' H', Ext c.f Z H Z' H' → Wf c.K c.f Z' H' φ → XRep c Z' H' x l cls dx → W cls dx σ H'
  | .bad => False
section
variable {X : Cx} {c : Ct} {own : List Ms} {m : Md} {W : WX} {pos : Pos} {Z H Z1 H1 : Hp} {σ : L2.St}
theorem PostP.shift {o : O (List (Key × D))} {Q : List (V × V) → Hp → Prop} (e : Ext c.f Z H Z1 H1) (h : PostP c W o σ Z H Q) : PostP c W o σ Z1 H1 Q := by
  cases o with
  | ok d φ => exact fun v Z' H' e' => h v Z' H' (e.trans e')
  | ex x l φ => exact fun cls dx Z' H' e' => h cls dx Z' H' (e.trans e')
  | bad => exact h
/-- the pairs' trees with their reading -/
def PX (X : Cx) (c : Ct) (own : List Ms) (W : WX) (pos : Pos) (keys : List (Option Expr)) (values : List Expr) (P : SP) : Prop :=
  ∃ trs, PPs X pos keys values trs ∧ ∀ (Z H : Hp) (ρ : En) (φ : Fd) (σ : L2.St) (Q : List (V × V) → Hp → Prop), Rl c own Z ρ φ σ H → PostP c W (P ρ φ) σ Z H Q → tPairs trs σ H Q
theorem px_nil : PX X c own W pos [] [] pNil := ⟨[], pps_nil, fun Z H ρ φ σ Q R h => h [] Z H .refl R.wf .nil⟩
theorem px_cons {k v : Expr} {ks : List (Option Expr)} {vs : List Expr} {A B : SX} {P : SP} (hk : EX X c own .p W k A) (hv : EX X c own .s W v B) (hr : PX X c own W pos ks vs P) : PX X c own W pos (some k :: ks) (v :: vs) (pCons A B P) := by
  obtain ⟨trs, h1, h2⟩ := hr
  refine ⟨_, pps_cons hk hv h1, fun Z H ρ φ σ Q R h => ?_⟩
  show tE c own .p W A σ H _
  refine ⟨Z, ρ, φ, R, Post.bind (E := fun o Z H => PostP c W o σ Z H Q) (fun _ _ _ e h => h.shift e) (fun _ _ _ h => h) (fun h => h) h fun kd φ1 x Z1 H1 e1 w1 r1 h1 => ?_⟩
  show tE c own .s W B σ H1 _
  refine ⟨Z1, ρ, φ1, R.more e1 w1, Post.bind (E := fun o Z H => PostP c W o σ Z H Q) (fun _ _ _ e h => h.shift e) (fun _ _ _ h => h) (fun h => h) h1 fun vd φ2 y Z2 H2 e2 w2 r2 h3 => ?_⟩
  cases hk : keyD kd with
  | none => rw [hk] at h3; exact h3.elim
  | some key =>
    rw [hk] at h3
    refine h2 Z2 H2 ρ φ2 σ _ ((R.more e1 w1).more e2 w2) ?_
    have hx : x = kV key := keyD_rep (r1.pmono e2) hk
    have h3' : PostP c W ((P ρ φ2).bind fun l φ3 => O.ok ((key, vd) :: l) φ3) σ Z2 H2 Q := h3
    cases hP : P ρ φ2 with
    | ok l φ3 =>
      rw [hP] at h3'
      intro kvs Z' H' e' w' r'
      have := h3' ((key, y) :: kvs) Z' H' e' w' (.cons (Rep.mono e'.z r2) r')
      rw [hx]
      exact this
    | ex _ _ _ => rw [hP] at h3'; exact h3'
    | bad => rw [hP] at h3'; exact h3'
def eDsp (P : SP) : SX := fun ρ φ => (P ρ φ).bind fun l φ1 => if l.length ≤ 15 then .ok (.dk (mergeD [] l)) φ1 else .bad
theorem x_dsp {keys : List (Option Expr)} {values : List Expr} {P : SP} (h : PX X c own W pos keys values P) (hall : keys.all (·.isSome) = true := by rfl) (hl : keys.length = values.length := by rfl) (h0 : keys ≠ [] := by exact List.cons_ne_nil _ _) (h15 : keys.length ≤ 15 := by decide) :
    EX X c own .o W (.Dict keys values pos) (eDsp P) := by
  obtain ⟨trs, h1, h2⟩ := h
  refine PE.weak (pe_disp h1 hall hl h0 h15) ?_
  rintro σ H Q ⟨Z, ρ, φ, R, h⟩ p hp
  have w := R.wf
  have hz : Z p = none := by
    cases e : Z p with
    | none => rfl
    | some u => rw [w.sub p u e] at hp; cases hp
  have hf : p ≠ c.f := fun e => w.hf (e ▸ hp)
  have up : ∀ (o : HO) b u, H b = some u → upd H p o b = some u := fun o b u q => by rw [upd_ne (ne_of_none q hp)]; exact q
  have e0 : Ext c.f Z H Z (upd H p (.dK [])) := ⟨fun _ _ q => q, fun b u _ q => up _ b u q, fun b hb => by
    cases e : H b with
    | none => exact absurd e hb
    | some u => rw [up _ b u e]; simp, fun _ _ q => q, .same (upd_ne (Ne.symm hf))⟩
  have w0 : Wf c.K c.f Z (upd H p (.dK [])) φ := ⟨fun b u q => up _ b u (w.sub b u q), w.zf, by
    obtain ⟨s, h1, h2⟩ := w.feed
    exact ⟨s, h1, up _ _ _ h2⟩, w.ok⟩
  refine h2 Z _ ρ φ σ _ (R.more e0 w0) ?_
  unfold eDsp at h
  cases hP : P ρ φ with
  | bad => rw [hP] at h; exact h
  | ex x l φ1 =>
    rw [hP] at h
    exact fun cls dx Z' H' e' w' r' => h cls dx Z' H' (e0.trans e') w' r'
  | ok l φ1 =>
    rw [hP] at h
    intro kvs Z' H' e' w' r'
    obtain ⟨hl15, h4⟩ := iteO_ok (E := fun o => Post c .o W o σ Z H Q) h fun z => z
    have hp' : H' p = some (.dK []) := e'.h p _ hf upd_same
    have hz' : Z' p = none := e'.n p (by rw [upd_same]; simp) hz
    have upH : ∀ (o : HO) b u, b ≠ p → H' b = some u → upd H' p o b = some u := fun o b u hb q => by rw [upd_ne hb]; exact q
    refine ⟨hp', kvs, rfl, by rw [r'.length]; exact hl15, ?_⟩
    have e1 : Ext c.f Z H Z' (upd H' p (.dK (mergeK [] kvs))) := by
      refine ⟨e'.z, fun b u hb q => upH _ b u (ne_of_none q hp) (e'.h b u hb (up _ b u q)), fun b hb => ?_, fun b hb q => e'.n b (by
        cases e : H b with
        | none => exact absurd e hb
        | some u => rw [up _ b u e]; simp) q, ?_⟩
      · cases e : H b with
        | none => exact absurd e hb
        | some u =>
          have hbp : b ≠ p := ne_of_none e hp
          rw [upd_ne hbp]
          exact e'.k b (by rw [up _ b u e]; simp)
      · exact (FdK.same (upd_ne (Ne.symm hf))).trans (e'.d.trans (.same (upd_ne (Ne.symm hf))))
    have w1 : Wf c.K c.f Z' (upd H' p (.dK (mergeK [] kvs))) φ1 := ⟨fun b u q => upH _ b u (fun z => by rw [z, hz'] at q; cases q) (w'.sub b u q), w'.zf, by
      obtain ⟨s, h1, h2⟩ := w'.feed
      exact ⟨s, h1, upH _ _ _ (Ne.symm hf) h2⟩, w'.ok⟩
    refine h4 (.ref p) Z' _ e1 w1 ?_
    unfold Res
    rw [if_pos (show (D.dk (mergeD [] l)).mt = true from rfl)]
    exact ⟨p, _, rfl, hp, hz', hf, upd_same, .dk (r'.merge .nil)⟩
/-- {} -/
def eDct0 : SX := fun _ φ => .ok (.dk []) φ
theorem x_dct0 : EX X c own .o W (.Dict [] [] pos) eDct0 := by
  refine PE.weak pe_dnewK ?_
  rintro σ H Q ⟨Z, ρ, φ, R, h⟩
  exact Post.newO R.wf (.dk .nil) h
/-! ### d.get(k, x), d[k], k in d -/
def eDGet (A B C : SX) : SX := fun ρ φ => (A ρ φ).bind fun d φ1 => match d with
  | .dk l => (B ρ φ1).bind fun k φ2 => (C ρ φ2).bind fun z φ3 => (match keyD k with
    | some k => .ok ((valD l k).getD z) φ3
    | none => .bad)
  | _ => .bad
def eDIx (A B : SX) : SX := fun ρ φ => (A ρ φ).bind fun d φ1 => match d with
  | .dk l => (B ρ φ1).bind fun k φ2 => (match keyD k with
    | some k => ofO (valD l k) φ2
    | none => .bad)
  | _ => .bad
variable {o k z : Expr} {A B C : SX} {apos cpos : Pos}
theorem x_dget (hu : X.A.units + 64 < cLine) (ha : EX X c own .p W o A) (hb : EX X c own .p W k B) (hz : EX X c own .s W z C) (hm : M2 X o "get" apos k z cpos := by exact ⟨rfl, rfl, rfl, rfl⟩) : EX X c own .s W (.Call (.Attribute o "get" apos) [k, z] [] cpos) (eDGet A B C) := by
  refine PE.weak (pe_dget2 (by omega) ha hb hz hm) ?_
  rintro σ H Q ⟨Z, ρ, φ, R, h⟩
  refine ⟨Z, ρ, φ, R, Post.bindE h fun d φ1 x Z1 H1 e1 w1 r1 h1 => ?_⟩
  cases d with
  | dk l =>
    obtain ⟨a, kvs, rfl, ha1, rk⟩ := r1.dk w1
    refine ⟨a, rfl, .inl ⟨kvs, Rd.of ha1⟩, Z1, ρ, φ1, R.more e1 w1, Post.bindE h1 fun kd φ2 y Z2 H2 e2 w2 r2 h2 => ?_⟩
    refine ⟨Z2, ρ, φ2, (R.more e1 w1).more e2 w2, Post.bindE h2 fun zd φ3 v Z3 H3 e3 w3 r3 h3 => ?_⟩
    cases hk : keyD kd with
    | none => rw [hk] at h3; exact h3.elim
    | some key =>
      rw [hk] at h3
      obtain ⟨a', kvs', ea, ha3, rk3⟩ := ((r1.pmono e2).pmono e3).dk w3
      cases ea
      have hy : y = kV key := keyD_rep (r2.pmono e3) hk
      refine ⟨valV kvs' key, by rw [hy]; exact DGet.k ha3, ?_⟩
      have h3' : Post c .s W (.ok ((valD l key).getD zd) φ3) σ Z3 H3 Q := h3
      cases hv : valD l key with
      | none =>
        rw [hv] at h3'
        rw [rk3.miss hv]
        exact h3'.now w3 r3
      | some u =>
        rw [hv] at h3'
        obtain ⟨y2, e4, r4⟩ := rk3.hit hv
        rw [e4]
        exact h3'.now w3 r4
  | _ => exact h1.elim
theorem x_dix (hu : X.A.units + 64 < cLine) (ha : EX X c own .p W o A) (hb : EX X c own .p W k B) (hs : NoSl k := by exact fun _ _ => rfl) : EX X c own .s W (.Subscript o k pos) (eDIx A B) := by
  refine PE.weak (pe_dget (by omega) ha hb hs) ?_
  rintro σ H Q ⟨Z, ρ, φ, R, h⟩
  refine ⟨Z, ρ, φ, R, Post.bindE h fun d φ1 x Z1 H1 e1 w1 r1 h1 => ?_⟩
  cases d with
  | dk l =>
    refine ⟨Z1, ρ, φ1, R.more e1 w1, Post.bindE h1 fun kd φ2 y Z2 H2 e2 w2 r2 h2 => ?_⟩
    cases hk : keyD kd with
    | none => rw [hk] at h2; exact h2.elim
    | some key =>
      rw [hk] at h2
      obtain ⟨a, kvs, rfl, ha2, rk⟩ := (r1.pmono e2).dk w2
      have hy : y = kV key := keyD_rep r2 hk
      obtain ⟨z, hz, h3⟩ := ofO_ok (E := fun o => Post c .s W o σ Z2 H2 Q) h2 fun z => z
      obtain ⟨v, e4, r4⟩ := rk.hit hz
      exact ⟨a, v, rfl, by rw [hy, ← e4]; exact DGet.k ha2, h3.now w2 r4⟩
  | _ => exact h1.elim
end
end Pf

set_option Elab.async false
set_option linter.all false
set_option maxRecDepth 100000
set_option maxHeartbeats 4000000
namespace Pf
open PySem PySem.Spec PyProof.Rows L2

/-! ## a module's constants that are tuples, and dicts with ints as keys -/
def repF (u : Value) (d : D) : Bool := match u, d with
  | .int i _, .int j => i == j
  | .str x _, .str y => decide (x = y)
  | .none, .non => true
  | .bool b, .bl c => b == c
  | _, _ => false
def repFs : List Value → List D → Bool
  | [], [] => true
  | u :: us, d :: ds => repF u d && repFs us ds
  | _, _ => false
def repB (K : PySem.W.Frag) (u : Value) (d : D) : Bool := match d with
  | .tup ds => match u with
    | .ref t => match K.lookup t with
      | some o => (match o.cls with | .type n => n == "tuple" | _ => false) && (match o.data with | .seq its _ => decide (its.size ≤ 1000) && repFs its.toList ds | _ => false)
      | none => false
    | _ => false
  | d => repF u d
theorem repF_ok {u : Value} {d : D} (h : repF u d = true) : ∃ v, RelV v u ∧ ∀ K f Z, Rep K f Z v d := by
  unfold repF at h
  split at h
  · rename_i i t j
    exact ⟨.int i, ⟨t, rfl⟩, fun K f Z => by rw [beq_iff_eq] at h; subst h; exact .int _⟩
  · rename_i x t y
    exact ⟨.str x, ⟨t, rfl⟩, fun K f Z => by rw [decide_eq_true_eq] at h; subst h; exact .str _⟩
  · exact ⟨.non, rfl, fun K f Z => .non⟩
  · rename_i b d
    exact ⟨.bl b, rfl, fun K f Z => by rw [beq_iff_eq] at h; subst h; exact .bl _⟩
  · cases h
theorem repFs_ok : ∀ {us : List Value} {ds : List D}, repFs us ds = true → ∃ vs, Vals vs us ∧ ∀ K f Z, Reps K f Z vs ds
  | [], [], _ => ⟨[], .nil, fun _ _ _ => .nil⟩
  | u :: us, d :: ds, h => by
    have h' : (repF u d && repFs us ds) = true := h
    rw [Bool.and_eq_true] at h'
    obtain ⟨v, h1, h2⟩ := repF_ok h'.1
    obtain ⟨vs, h3, h4⟩ := repFs_ok h'.2
    exact ⟨v :: vs, .cons h1 h3, fun K f Z => .cons (h2 K f Z) (h4 K f Z)⟩
  | [], _ :: _, h => by cases h
  | _ :: _, [], h => by cases h
theorem repB_ok {K : PySem.W.Frag} {u : Value} {d : D} (h : repB K u d = true) : ∃ v, RelV v u ∧ ∀ f Z, Rep K f Z v d := by
  have flat : repF u d = true → ∃ v, RelV v u ∧ ∀ f Z, Rep K f Z v d := fun h => by
    obtain ⟨v, h1, h2⟩ := repF_ok h
    exact ⟨v, h1, fun f Z => h2 K f Z⟩
  cases d with
  | tup ds =>
    unfold repB at h
    dsimp only at h
    split at h
    · rename_i t
      split at h
      · rename_i o ho
        rw [Bool.and_eq_true] at h
        obtain ⟨h1, h2⟩ := h
        split at h1
        · rename_i n hc
          split at h2
          · rename_i its m hd
            rw [Bool.and_eq_true, decide_eq_true_eq] at h2
            obtain ⟨vs, h3, h4⟩ := repFs_ok h2.2
            refine ⟨.ref t, rfl, fun f Z => .tup (.inr ⟨o, its, m, ho, ?_, hd, ?_, h3⟩) (h4 K f Z)⟩
            · rw [hc, beq_iff_eq.mp h1]
            · rw [sizeLine_eq]; have := h2.1; omega
          · cases h2
        · cases h1
      · cases h
    · cases h
  | _ => exact flat h
def gdB (K : PySem.W.Frag) (p : Addr) (tbl : List (Int × D)) : Bool := match K.lookup p with
  | some ⟨.type n, none, .dict es _, sl⟩ => n == "dict" && sl.isEmpty && es.toList.all (fun e => match e.key with | .int i _ => e.hash == hashInt i | _ => false) && tbl.all fun kd => match findBy Value.isInt es kd.1 with | some u => repB K u kd.2 | none => false
  | _ => false
def gdF (tbl : List (Int × D)) (k : D) : Option D := match k with
  | .int i => (tbl.find? fun kd => decide (kd.1 = i)).map (·.2)
  | _ => none
def rGd (P : Program) (w : World) (K : PySem.W.Frag) : R2 := fun x y H Q => ∃ p i es n u v, x = .ref p ∧ y = .int i ∧ K.lookup p = some ⟨.type "dict", none, .dict es n, #[]⟩ ∧ KeysOf (intKind P w) es ∧ findBy Value.isInt es i = some u ∧ RelV v u ∧ Q v H
theorem ix_gd {X : Cx} : IxR X (rGd X.prog X.w X.K) := by
  intro value slice pins s σ H x y v u Q I rx ry h hs
  obtain ⟨p, i, es, n, u0, r, rfl, rfl, hl, hk, hf, ru, q⟩ := h
  obtain rfl : v = Value.ref p := rx
  obtain ⟨t, rfl⟩ := ry
  have hm : s.heap.MapOf (intKind X.prog X.w) p (fun k => findBy Value.isInt es k) := ⟨_, es, n, I.kIn _ _ hl, ⟨rfl, rfl, rfl⟩, rfl, hk, fun _ => rfl⟩
  exact tail_any hm.typeIs slot_dict_getitem.lookup (wpAny_getItem_of (intKind_is X.prog X.w i t) hm hf ⟨r, H, I.tok _, ru, q⟩) hs
section
variable {X : Cx} {c : Ct} {own : List Ms} {m : Md} {W : WX} {pos p0 : Pos}
/-- T[k], T a dict of the module -/
def eGIx (tbl : List (Int × D)) (B : SX) : SX := fun ρ φ => (B ρ φ).bind fun k φ1 => ofO (gdF tbl k) φ1
theorem gd_at {p : Addr} {tbl : List (Int × D)} {i : Int} {d : D} (h : gdB X.K p tbl = true) (hd : gdF tbl (.int i) = some d) :
    ∃ es n u v, X.K.lookup p = some ⟨.type "dict", none, .dict es n, #[]⟩ ∧ KeysOf (intKind X.prog X.w) es ∧ findBy Value.isInt es i = some u ∧ RelV v u ∧ ∀ f Z, Rep X.K f Z v d := by
  unfold gdB at h
  split at h
  · rename_i n es m sl ho
    rw [Bool.and_eq_true, Bool.and_eq_true, Bool.and_eq_true, List.all_eq_true, List.all_eq_true] at h
    obtain ⟨⟨⟨h1, h2⟩, h3⟩, h4⟩ := h
    have hd' : (tbl.find? fun kd => decide (kd.1 = i)).map (·.2) = some d := hd
    obtain ⟨kd, e1, e2⟩ := Option.map_eq_some_iff.mp hd'
    have hk : kd.1 = i := by simpa using List.find?_some e1
    have h5 := h4 kd (List.mem_of_find?_eq_some e1)
    rw [hk] at h5
    split at h5
    · rename_i u hu
      obtain ⟨v, r1, r2⟩ := repB_ok h5
      refine ⟨es, m, u, v, ?_, fun e he => ?_, hu, r1, fun f Z => by rw [← e2]; exact r2 f Z⟩
      · rw [ho, beq_iff_eq.mp h1, Array.isEmpty_iff.mp h2]
      · have := h3 e (Array.mem_toList_iff.mpr he)
        split at this
        · rename_i j t hj
          exact ⟨j, by rw [hj]; exact intKind_is X.prog X.w j t, beq_iff_eq.mp this⟩
        · cases this
    · cases h5
  · cases h
theorem x_gdix {x : Str} {p : Addr} {tbl : List (Int × D)} {k : Expr} {B : SX} (hK : X.K = c.K) (hm : X.mg x = some (.ref p)) (ht : gdB X.K p tbl = true) (hb : EX X c own .p W k B) (hg : Gl X x := by rfl) (hd : (x == ("__debug__" : Str)) = false := by decide) (hs : PlainIx k := by exact fun _ _ => rfl) :
    EX X c own .s W (.Subscript (.Name x p0) k pos) (eGIx tbl B) := by
  refine PE.weak (pe_ix (ix_gd (X := X)) (pe_glob (v := V.ref p) (pos := p0) hg hm rfl hd) hb hs) ?_
  rintro σ H Q ⟨Z, ρ, φ, R, h⟩
  refine ⟨Z, ρ, φ, R, Post.bindE h fun kd φ1 y Z1 H1 e1 w1 r1 h1 => ?_⟩
  obtain ⟨z, hz, h2⟩ := ofO_ok (E := fun o => Post c .s W o σ Z1 H1 Q) h1 fun z => z
  cases kd with
  | int i =>
    obtain ⟨es, n, u, v, e1, e2, e3, e4, e5⟩ := gd_at ht hz
    exact ⟨p, i, es, n, u, v, rfl, r1.int, e1, e2, e3, e4, h2.now w1 (by rw [← hK]; exact e5 c.f Z1)⟩
  | _ => cases hz
/-- a module's tuple -/
theorem x_gtup {x : Str} {u : Value} {d : D} (hK : X.K = c.K) (hm : X.mg x = some u) (ht : repB X.K u d = true) (hf : d.mt = false := by rfl) (hg : Gl X x := by rfl) (hd : (x == ("__debug__" : Str)) = false := by decide) :
    EX X c own .o W (.Name x pos) (fun _ φ => .ok d φ) := by
  obtain ⟨v, h1, h2⟩ := repB_ok ht
  exact PE.weak (pe_glob hg hm h1 hd) fun σ H Q ⟨Z, ρ, φ, R, h⟩ => h _ Z H .refl R.wf (Res.of_flat (by rw [← hK]; exact h2 _ _) hf)
/-! ## is True, is False -/
def gIsB : D → D → Option D
  | .bl a, .bl b => some (.bl (decide (a = b)))
  | _, _ => none
def gIsNotB : D → D → Option D
  | .bl a, .bl b => some (.bl (!decide (a = b)))
  | _, _ => none
theorem gIsB_ok : OpG (fun x y H Q => ∃ a b, x = .bl a ∧ y = .bl b ∧ Q (.bl (decide (a = b))) H) m c gIsB := by
  intro Z H φ x y d e z W σ Q w rx ry hg h
  cases d with
  | bl a =>
    cases e with
    | bl b => cases hg; exact ⟨a, b, rx.bl, ry.bl, h.nowB w⟩
    | _ => cases hg
  | _ => cases e <;> cases hg
theorem gIsNotB_ok : OpG (fun x y H Q => ∃ a b, x = .bl a ∧ y = .bl b ∧ Q (.bl (!decide (a = b))) H) m c gIsNotB := by
  intro Z H φ x y d e z W σ Q w rx ry hg h
  cases d with
  | bl a =>
    cases e with
    | bl b => cases hg; exact ⟨a, b, rx.bl, ry.bl, h.nowB w⟩
    | _ => cases hg
  | _ => cases e <;> cases hg
variable {a b : Expr} {A B : SX}
theorem x_isB (ha : EX X c own .p W a A) (hb : EX X c own .p W b B) : EX X c own .o W (.Compare a [.Is] [b] pos) (eBin gIsB A B) := x_cmp op_is_bl gIsB_ok ha hb (nomark _)
theorem x_isnotB (ha : EX X c own .p W a A) (hb : EX X c own .p W b B) : EX X c own .o W (.Compare a [.IsNot] [b] pos) (eBin gIsNotB A B) := x_cmp op_isnot_bl gIsNotB_ok ha hb (nomark _)
theorem b_isB (ha : EX X c own .p W a A) (hb : EX X c own .p W b B) : BX X c own W (.Compare a [.Is] [b] pos) (bCmp gIsB A B) := b_cmp op_is_bl gIsB_ok ha hb (nomark _)
theorem b_isnotB (ha : EX X c own .p W a A) (hb : EX X c own .p W b B) : BX X c own W (.Compare a [.IsNot] [b] pos) (bCmp gIsNotB A B) := b_cmp op_isnot_bl gIsNotB_ok ha hb (nomark _)
end
end Pf

set_option Elab.async false
set_option linter.all false
set_option maxRecDepth 100000
set_option maxHeartbeats 4000000
namespace Pf
open PySem PySem.Spec PyProof.Rows L2

/-! ## x.count(k), whole numbers -/
def gCnt (l : List D) : D → Option D
  | .int k => (intsOf l).map fun ns => .int (ns.count k : Nat)
  | _ => none
def eCnt (A B : SX) : SX := fun ρ φ => (A ρ φ).bind fun d φ1 => match d with
  | .lst l => (B ρ φ1).bind fun k φ2 => ofO (gCnt l k) φ2
  | _ => .bad
section
variable {X : Cx} {c : Ct} {own : List Ms} {m : Md} {W : WX} {a b e : Expr} {A B : SX} {pos apos cpos : Pos}
theorem x_cnt (hK : X.K = c.K) (ha : EX X c own .p W a A) (hb : EX X c own .p W e B)
    (hbase : attributeBase a "count" X.env (eval a X.env) = eval a X.env := by rfl)
    (hfew : ((backTo cpos (starEach [e] X.env)).all (fun x => !x.1) && (backToKw cpos (keywordEach [] X.env)).all (fun x => x.1.isSome) && decide ([e].length + ([] : List Keyword).length + (if ([] : List Keyword).isEmpty then 0 else 1) < 30)) = true := by rfl)
    (hline : (apos.endLine == cpos.line) = true := by rfl) (hse : starEach [e] X.env = (false, eval e X.env) :: starEach [] X.env := by rfl) (hplain : (backTo cpos (starEach [] X.env)).any (·.1) = false := by rfl) :
    EX X c own .o W (.Call (.Attribute a "count" apos) [e] [] cpos) (eCnt A B) := by
  refine PE.weak (pe_bm PySem.F.plainAttrs_list PySem.F.slot_list_count PySem.F.type_list_count mt_lcount ha (pa_cons hb pa_nil hse) hbase hfew hline hse hplain) ?_
  rintro σ H Q ⟨Z, ρ, φ, R, h⟩
  refine ⟨Z, ρ, φ, R, Post.bindE h fun d φ1 x Z1 H1 e1 w1 r1 h1 => ?_⟩
  have r1' : Res .p c.K c.f H1 Z1 H1 x d := r1
  cases d with
  | lst l =>
    obtain ⟨p, vs, rfl, hp, rs⟩ := r1'.lst w1
    refine ⟨.inl ⟨rfl, vs, by rw [hK]; exact SqL.of hp⟩, Z1, ρ, φ1, R.more e1 w1, Post.bindE h1 fun k φ2 y Z2 H2 e2 w2 r2 h2 => ?_⟩
    obtain ⟨z, hz, h3⟩ := ofO_ok (E := fun o => Post c .o W o σ Z2 H2 Q) h2 fun z => z
    cases k with
    | int k =>
      obtain ⟨ns, en, rfl⟩ := Option.map_eq_some_iff.mp hz
      obtain ⟨p', e', hp'⟩ := ints_arg w2 (show Res .p c.K c.f H2 Z2 H2 (.ref p) (.lst l) from r1'.pmono e2) en
      cases e'
      exact ⟨p, ns, k, rfl, by rw [(show Res .p c.K c.f H1 Z2 H2 y (.int k) from r2).int], by rw [hK]; exact hp', h3.nowI w2⟩
    | _ => cases hz
  | _ => exact h1.elim
end

/-! ## results that are new down to a depth -/
section
variable {X : Cx} {c : Ct} {own o1 : List Ms} {m : Md} {W : WX} {e : Expr} {A : SX} {pos : Pos} {n : Nat}
theorem EX.o2d (h : EX X c own .o W e A) : EX X c own (.d 1) W e A := by
  refine PE.weak h ?_
  rintro σ H Q ⟨Z, ρ, φ, R, p⟩
  refine ⟨Z, ρ, φ, R, p.mode fun d φ v Z' H' e w r => ?_⟩
  by_cases hm : d.mt = true
  · unfold Res at r
    rw [if_pos hm] at r
    obtain ⟨a, o, rfl, h0, hz, hf, ha, rc⟩ := r
    obtain ⟨e2, w2, r2⟩ := freeze e w h0 hz hf ha rc
    refine ⟨_, e2, w2, r2, ?_⟩
    cases d with
    | lst l =>
      cases rc with
      | lst rs => exact ⟨a, _, rfl, upd_same, h0, fun _ _ _ _ _ => trivial⟩
    | _ => trivial
  · unfold Res at r
    rw [if_neg hm] at r
    exact ⟨Z', e, w, r, .flat (by simpa using hm)⟩
theorem EX.d2s (h : EX X c own (.d n) W e A) : EX X c own .s W e A := by
  refine PE.weak h ?_
  rintro σ H Q ⟨Z, ρ, φ, R, p⟩
  cases hA : A ρ φ with
  | ok d φ1 =>
    rw [hA] at p
    exact ⟨Z, ρ, φ, R, by rw [hA]; exact fun v Z' H' e w r => p v Z' H' e w r.1⟩
  | ex y l φ1 => rw [hA] at p; exact ⟨Z, ρ, φ, R, by rw [hA]; exact p⟩
  | bad => rw [hA] at p; exact p.elim
/-- .. of each item -/
def FrA (H0 Z : Hp) (n : Nat) (vs : List V) (ds : List D) : Prop := ∀ (i : Nat) u e, vs[i]? = some u → ds[i]? = some e → Nw H0 Z n u e
theorem FrA.nil {H0 Z : Hp} : FrA H0 Z n [] [] := fun i u e h => by simp at h
theorem FrA.mono {H0 Z Z' : Hp} {vs : List V} {ds : List D} (q : FrA H0 Z n vs ds) (h : ∀ a o, Z a = some o → Z' a = some o) : FrA H0 Z' n vs ds := fun i u e h1 h2 => (q i u e h1 h2).mono h
theorem FrA.start {H0 H1 Z : Hp} {vs : List V} {ds : List D} (q : FrA H1 Z n vs ds) (k : ∀ a, H0 a ≠ none → H1 a ≠ none) : FrA H0 Z n vs ds := fun i u e h1 h2 => (q i u e h1 h2).start k
theorem FrA.cons {H0 Z : Hp} {v : V} {d : D} {vs : List V} {ds : List D} (h : Nw H0 Z n v d) (q : FrA H0 Z n vs ds) : FrA H0 Z n (v :: vs) (d :: ds) := fun i u e h1 h2 => by
  cases i with
  | zero => simp at h1 h2; subst h1; subst h2; exact h
  | succ i => exact q i u e (by simpa using h1) (by simpa using h2)
theorem FrA.app {H0 Z : Hp} {v : V} {d : D} {vs : List V} {ds : List D} (q : FrA H0 Z n vs ds) (hl : vs.length = ds.length) (h : Nw H0 Z n v d) : FrA H0 Z n (vs ++ [v]) (ds ++ [d]) := fun i u e h1 h2 => by
  by_cases hi : i < vs.length
  · rw [List.getElem?_append_left hi] at h1
    rw [List.getElem?_append_left (by omega)] at h2
    exact q i u e h1 h2
  · rw [List.getElem?_append_right (by omega)] at h1
    rw [List.getElem?_append_right (by omega)] at h2
    rw [hl] at h1
    cases hk : i - ds.length with
    | zero => rw [hk] at h1 h2; simp at h1 h2; subst h1; subst h2; exact h
    | succ k => rw [hk] at h1; simp at h1
end
section
variable {X : Cx} {c : Ct} {own o1 : List Ms} {q : Bool} {W : WX} {pos : Pos}
theorem lcD_read {n : Nat} {I : SA} {T : Tg} {tst : SB} {elt : SX} {vs is : List Nat} {σ : L2.St} {H : Hp} {Q : VK} (his : ∀ j ∈ is, j ∈ vs) (h : tE c own (.d (n + 1)) W (eLc I T tst elt vs) σ H Q) :
    tLc (tI c own true W I) (tT c (ownB own vs) o1 is T) (tB c o1 W0 tst) (tE c o1 (.d n) W0 elt) vs σ H Q := by
  obtain ⟨Z, ρ, φ, R, h⟩ := h
  refine ⟨Z, ρ, φ, R, ?_⟩
  unfold eLc at h
  cases hI : I ρ φ with
  | bad => rw [hI] at h; exact h
  | ex y l φ' => rw [hI] at h; exact h
  | ok ds φ1 =>
    rw [hI] at h
    intro J Z1 H1 e1 w1 wk D hD
    have hgo : ∃ ys φ2, lcGo T tst elt (wipeE ρ vs) ds φ1 = .ok ys φ2 ∧ ys.length ≤ sizeLine ∧ Post c (.d (n + 1)) W (.ok (.lst ys) φ2) σ Z H Q := by
      have h' : Post c (.d (n + 1)) W (match lcGo T tst elt (wipeE ρ vs) ds φ1 with
        | .ok ys φ2 => if ys.length ≤ sizeLine then .ok (.lst ys) φ2 else .bad
        | _ => .bad) σ Z H Q := h
      cases hg : lcGo T tst elt (wipeE ρ vs) ds φ1 with
      | bad => rw [hg] at h'; exact h'.elim
      | ex _ _ _ => rw [hg] at h'; exact h'.elim
      | ok ys φ2 =>
        rw [hg] at h'
        obtain ⟨h1, h2⟩ := iteO_ok (E := fun o => Post c (.d (n + 1)) W o σ Z H Q) h' fun z => z
        exact ⟨ys, φ2, rfl, h1, h2⟩
    obtain ⟨tot, φe, hgo, hsz, hpost⟩ := hgo
    have hDf : D ≠ c.f := fun e => w1.hf (by rw [← e]; exact hD)
    have hDz : ∀ Z2 H2, Ext c.f Z1 H1 Z2 H2 → True := fun _ _ _ => trivial
    -- the invariant
    refine ⟨fun i m Hn => m = ds.length - i ∧ i ≤ ds.length ∧ ∃ Zn φn acc accV rest, (∀ a o, Z1 a = some o → Zn a = some o) ∧ (∀ a o, a ≠ c.f → H1 a = some o → Hn a = some o) ∧ (∀ a, H1 a ≠ none → Hn a ≠ none) ∧ (∀ a, H1 a ≠ none → Z1 a = none → Zn a = none) ∧ FdK c.f H1 Hn ∧
      Zn D = none ∧ Wf c.K c.f Zn Hn φn ∧ Hn D = some (.lst accV) ∧ Reps c.K c.f Zn accV acc ∧ FrA H Zn n accV acc ∧ lcGo T tst elt (wipeE ρ vs) (ds.drop i) φn = .ok rest φe ∧ acc ++ rest = tot, ⟨ds.length, by simp, Nat.zero_le _, ?_⟩, ?_⟩
    · have up : ∀ b u, H1 b = some u → upd H1 D (.lst []) b = some u := fun b u e => by rw [upd_ne (ne_of_none e hD)]; exact e
      have hz : Z1 D = none := by
        cases e : Z1 D with
        | none => rfl
        | some u => rw [w1.sub D u e] at hD; cases hD
      refine ⟨Z1, φ1, [], [], tot, fun _ _ e => e, fun b u _ e => up b u e, fun b hb => ?_, fun _ _ e => e, .same (upd_ne (Ne.symm hDf)), hz, ⟨fun b u e => up b u (w1.sub b u e), w1.zf, ?_, w1.ok⟩, upd_same, .nil, .nil, hgo, rfl⟩
      · cases e : H1 b with
        | none => exact absurd e hb
        | some u => rw [up b u e]; simp
      · obtain ⟨s, k1, k2⟩ := w1.feed
        exact ⟨s, k1, up _ _ k2⟩
    · rintro i m Hn ⟨rfl, hi, Zn, φn, acc, accV, rest, kz, kh, kk, kn, kd, nD, wn, hDn, ra, fa, hg, ht⟩
      have en : Ext c.f Z1 H1 Zn Hn := ⟨kz, kh, kk, kn, kd⟩
      obtain ⟨wk1, wk2⟩ := wk i Zn Hn φn ⟨kz, fun _ => kh, (((R.more e1 w1).ext.trans en)).h⟩ wn
      by_cases hlt : i < ds.length
      · obtain ⟨d, hd⟩ : ∃ d, ds[i]? = some d := ⟨_, List.getElem?_eq_getElem hlt⟩
        obtain ⟨go, step⟩ := wk2 d hd
        rw [List.drop_eq_getElem_cons hlt] at hg
        have hdd : ds[i] = d := by
          rw [List.getElem?_eq_getElem hlt] at hd
          exact Option.some.inj hd
        rw [hdd] at hg
        obtain ⟨ρ1, b, φt, hT, htst, hcase⟩ := lcGo_cons hg
        refine .inr ⟨go, fun H' => ∃ m', m' < ds.length - i ∧ (m' = ds.length - (i + 1) ∧ i + 1 ≤ ds.length ∧ ∃ Zn φn acc accV rest, (∀ a o, Z1 a = some o → Zn a = some o) ∧ (∀ a o, a ≠ c.f → H1 a = some o → H' a = some o) ∧ (∀ a, H1 a ≠ none → H' a ≠ none) ∧ (∀ a, H1 a ≠ none → Z1 a = none → Zn a = none) ∧ FdK c.f H1 H' ∧
          Zn D = none ∧ Wf c.K c.f Zn H' φn ∧ H' D = some (.lst accV) ∧ Reps c.K c.f Zn accV acc ∧ FrA H Zn n accV acc ∧ lcGo T tst elt (wipeE ρ vs) (ds.drop (i + 1)) φn = .ok rest φe ∧ acc ++ rest = tot), fun H' h => h, fun x Hx hx => ?_⟩
        obtain ⟨Zx, ex, wx, rx⟩ := step x Hx hx
        have exx := en.trans ex
        have Rb : Rl c (ownB own vs) Zx (wipeE ρ vs) φn (L2.wipe σ vs) Hx := ((R.more e1 w1).more exx wx).block vs
        refine ⟨Zx, wipeE ρ vs, φn, d, ρ1, Rb, rx, hT, fun σ2 tr agr => ⟨?_, Zx, ρ1, φn, tr Zx Hx φn Sub.refl Rb, ?_⟩⟩
        · have hh : L2.wipe σ2 vs = L2.wipe (L2.wipe σ vs) vs := agr.wipe his
          rw [hh]
          refine Agr.wipe (is := vs) ⟨wipe_length _ _, fun j hj => wipe_out hj⟩ fun j h => h
        · have R2 := tr Zx Hx φn Sub.refl Rb
          have nDx : Zx D = none := ex.n D (by rw [hDn]; simp) nD
          have hDx : Hx D = some (.lst accV) := ex.h D _ hDf hDn
          rw [htst]
          intro Z3 H3 e3 w3
          have nD3 : Z3 D = none := e3.n D (by rw [hDx]; simp) nDx
          have hD3 : H3 D = some (.lst accV) := e3.h D _ hDf hDx
          have en3 := exx.trans e3
          have ra3 := (ra.mono ex.z).mono e3.z
          have fa3 := (fa.mono ex.z).mono e3.z
          rcases hcase with ⟨rfl, hr⟩ | ⟨rfl, y, φy, r, hy, hr, hys⟩
          · rw [if_neg (by decide)]
            exact ⟨ds.length - (i + 1), by omega, rfl, hlt, Z3, φt, acc, accV, rest, en3.z, en3.h, en3.k, en3.n, en3.d, nD3, w3, hD3, ra3, fa3, hr, ht⟩
          · rw [if_pos rfl]
            refine ⟨Z3, ρ1, φt, R2.more e3 w3, ?_⟩
            rw [hy]
            intro v Z4 H4 e4 w4 r4
            have r4' : Rep c.K c.f Z4 v y := r4.1
            have nD4 : Z4 D = none := e4.n D (by rw [hD3]; simp) nD3
            have hD4 : H4 D = some (.lst accV) := e4.h D _ hDf hD3
            have en4 := en3.trans e4
            have ra4 := ra3.mono e4.z
            have fa4 := (fa3.mono e4.z).app ra4.length (r4.2.start (e1.trans en3).k)
            have hacc : accV.length < sizeLine := by
              have h1 := ra.length
              have h2 : (acc ++ rest).length ≤ sizeLine := by rw [ht]; exact hsz
              rw [hys, List.length_append, List.length_cons] at h2
              omega
            refine ⟨accV, hD4, hacc, ds.length - (i + 1), by omega, rfl, hlt, Z4, φy, acc ++ [y], accV ++ [v], r, en4.z, fun a o ha hh => ?_, fun a ha => ?_, en4.n, en4.d.trans (.same (upd_ne (Ne.symm hDf))), nD4, ⟨fun a o ha => ?_, w4.zf, ?_, w4.ok⟩, upd_same, ra4.app (.cons r4' .nil), fa4, hr, ?_⟩
            · rw [upd_ne (ne_of_none hh hD)]; exact en4.h a o ha hh
            · by_cases hb : a = D
              · rw [hb, upd_same]; simp
              · rw [upd_ne hb]; exact en4.k a ha
            · rw [upd_ne (fun e => by rw [e, nD4] at ha; cases ha)]; exact w4.sub a o ha
            · obtain ⟨s, k1, k2⟩ := w4.feed
              exact ⟨s, k1, by rw [upd_ne (Ne.symm hDf)]; exact k2⟩
            · rw [List.append_assoc]; rw [← ht, hys]; rfl
      · have hie : i = ds.length := by omega
        refine .inl ⟨wk1 hie, ?_⟩
        rw [hie, List.drop_length] at hg
        cases hg
        rw [List.append_nil] at ht
        subst ht
        have e2 := e1.trans en
        have h0 : H D = none := by
          cases e : H D with
          | none => rfl
          | some u => exact absurd hD (e1.k D (by rw [e]; simp))
        obtain ⟨e3, w3, r3⟩ := freeze e2 wn h0 nD hDf hDn (.lst ra)
        have up : ∀ b u, Zn b = some u → upd Zn D (.lst accV) b = some u := fun b u q => by rw [upd_ne (ne_of_none q nD)]; exact q
        exact hpost (.ref D) _ Hn e3 w3 ⟨r3, D, accV, rfl, upd_same, h0, fa.mono up⟩
theorem x_lcD {n : Nat} {elt tg iter : Expr} {ifs : List Expr} {scope : Scope} (nm : List (Str × Nat)) {is : List Nat} {I : SA} {T : Tg} {tst : SB} {elt' : SX} (hc : X.calm = true) (hN : X.N.Nodup) (ok : blkC X.N X.env.scope scope nm = true)
    (hi : IJ X c own true W tg iter I)
    (hg : ∀ (s : Shared) (H : Hp) (C : Addr) (cl : List (Str × Addr)) (fp : List Addr), TJ (X.blk s H scope (compEnvC scope cl C X.env) fp) c (ownB own (nm.map (·.2))) o1 is tg T)
    (ht : ∀ (s : Shared) (H : Hp) (C : Addr) (cl : List (Str × Addr)) (fp : List Addr), PTs (X.blk s H scope (compEnvC scope cl C X.env) fp) ifs (tB c o1 W0 tst))
    (he : ∀ (s : Shared) (H : Hp) (C : Addr) (cl : List (Str × Addr)) (fp : List Addr), EX (X.blk s H scope (compEnvC scope cl C X.env) fp) c o1 (.d n) W0 elt elt')
    (hs : ∀ x, foldedSetIterable iter X.env x = pure x := by intro _; rfl) (hsub : ∀ j ∈ is, j ∈ nm.map (·.2) := by decide) :
    EX X c own (.d (n + 1)) W (.ListComp elt [⟨tg, iter, ifs, 0⟩] scope pos) (eLc I T tst elt' (nm.map (·.2))) :=
  PE.weak (pe_lc hc hN hi (blkOk_by ok) hg ht he hs) fun _ _ _ h => lcD_read hsub h
end
end Pf
namespace Pf
open PySem PySem.Spec PyProof.Rows L2
section
variable {X : Cx} {c : Ct} {own o1 : List Ms} {W : WX} {pos : Pos} {n : Nat}
theorem x_consD {e : Expr} {es : List Expr} {A : SX} {B : SA} (ha : EX X c own (.d n) W e A) (hb : AX X c own (.d n) W es B) (hs : starEach (e :: es) X.env = (false, eval e X.env) :: starEach es X.env := by rfl) : AX X c own (.d n) W (e :: es) (aCons A B) := by
  refine PA.weak (pa_cons ha hb hs) ?_
  rintro σ H Q ⟨Z, ρ, φ, R, h⟩
  unfold aCons at h
  refine ⟨Z, ρ, φ, R, ?_⟩
  cases hA : A ρ φ with
  | bad => rw [hA] at h; exact h.elim
  | ex y l φ1 => rw [hA] at h; exact h
  | ok d φ1 =>
    rw [hA] at h
    intro v Z1 H1 e1 w1 r1
    refine ⟨Z1, ρ, φ1, R.more e1 w1, ?_⟩
    have h' : PostA c (.d n) W ((B ρ φ1).bind fun ds φ2 => .ok (d :: ds) φ2) σ Z H Q := h
    cases hB : B ρ φ1 with
    | bad => rw [hB] at h'; exact h'.elim
    | ex y l φ2 => rw [hB] at h'; exact fun cls dx Z' H' e' w' r => h' cls dx Z' H' (e1.trans e') w' r
    | ok ds φ2 =>
      rw [hB] at h'
      exact fun vs Z2 H2 e2 w2 r2 => h' (v :: vs) Z2 H2 (e1.trans e2) w2 ⟨r1.mono e2, r2.start e1.k⟩
theorem RAll.repsD {K : PySem.W.Frag} {f : Addr} {H0 Z H : Hp} : ∀ {vs : List V} {ds : List D}, RAll (.d n) K f H0 Z H vs ds → Reps K f Z vs ds ∧ FrA H0 Z n vs ds
  | [], [], _ => ⟨.nil, .nil⟩
  | _ :: _, _ :: _, h => ⟨.cons h.1.1 (RAll.repsD h.2).1, .cons h.1.2 (RAll.repsD h.2).2⟩
theorem x_lstD {es : List Expr} {A : SA} (ha : AX X c own (.d n) W es A) : EX X c own (.d (n + 1)) W (.List es pos) (eLst A) := by
  refine PE.weak (pe_lst ha) ?_
  rintro σ H Q ⟨Z, ρ, φ, R, h⟩
  refine ⟨Z, ρ, φ, R, ?_⟩
  unfold eLst at h
  cases hA : A ρ φ with
  | bad => rw [hA] at h; exact h.elim
  | ex y l φ1 => rw [hA] at h; exact h
  | ok ds φ1 =>
    rw [hA] at h
    intro vs Z1 H1 e1 w1 r1
    obtain ⟨hl, h2⟩ := iteO_ok (E := fun o => Post c (.d (n + 1)) W o σ Z H Q) h fun z => z
    obtain ⟨rs, fs⟩ := r1.repsD
    refine ⟨by rw [rs.length]; exact hl, fun p hp => ?_⟩
    have hz : Z1 p = none := by
      cases e : Z1 p with
      | none => rfl
      | some u => rw [w1.sub p u e] at hp; cases hp
    have hf : p ≠ c.f := fun e => w1.hf (e ▸ hp)
    have up : ∀ b u, H1 b = some u → upd H1 p (.lst vs) b = some u := fun b u q => by rw [upd_ne (ne_of_none q hp)]; exact q
    have e2 : Ext c.f Z1 H1 Z1 (upd H1 p (.lst vs)) := ⟨fun _ _ q => q, fun b u _ q => up b u q, fun b hb => by
      cases e : H1 b with
      | none => exact absurd e hb
      | some u => rw [up b u e]; simp, fun _ _ q => q, .same (upd_ne (Ne.symm hf))⟩
    have w2 : Wf c.K c.f Z1 (upd H1 p (.lst vs)) φ1 := ⟨fun b u q => up b u (w1.sub b u q), w1.zf, by
      obtain ⟨s, h1, h2⟩ := w1.feed
      exact ⟨s, h1, up _ _ h2⟩, w1.ok⟩
    have h0 : H p = none := Classical.byContradiction fun q => e1.k p q hp
    obtain ⟨e3, w3, r3⟩ := freeze (e1.trans e2) w2 h0 hz hf upd_same (.lst rs)
    have upz : ∀ b u, Z1 b = some u → upd Z1 p (.lst vs) b = some u := fun b u q => by rw [upd_ne (ne_of_none q hz)]; exact q
    exact h2 (.ref p) _ _ e3 w3 ⟨r3, p, vs, rfl, upd_same, h0, fs.mono upz⟩
end

/-! ## a name whose data lies apart: changed at last, and then forgotten -/
/-- the frozen part with a private one -/
def jn (Z T : Hp) : Hp := fun a => match Z a with | some o => some o | none => T a
theorem jn_l {Z T : Hp} {a : Addr} {o : HO} (h : Z a = some o) : jn Z T a = some o := by unfold jn; rw [h]
theorem jn_r {Z T : Hp} {a : Addr} (h : Z a = none) : jn Z T a = T a := by unfold jn; rw [h]
theorem jn_or {Z T : Hp} {a : Addr} {o : HO} (h : jn Z T a = some o) : Z a = some o ∨ (Z a = none ∧ T a = some o) := by
  cases e : Z a with
  | none => rw [jn_r e] at h; exact .inr ⟨rfl, h⟩
  | some u => rw [jn_l e] at h; exact .inl h
/-- lists down to the depth n lie in T -/
def FT (T : Hp) : Nat → V → D → Prop
  | 0, _, _ => True
  | n + 1, v, .lst ds => ∃ a vs, v = .ref a ∧ T a = some (.lst vs) ∧ ∀ (i : Nat) u e, vs[i]? = some u → ds[i]? = some e → FT T n u e
  | _ + 1, _, _ => True
theorem FT.of {H Z T : Hp} (h : ∀ a o, H a = none → Z a = some o → T a = some o) : ∀ {n : Nat} {v : V} {d : D}, Nw H Z n v d → FT T n v d
  | 0, _, _, _ => trivial
  | n + 1, v, .lst ds, ⟨a, vs, e, hz, h0, q⟩ => ⟨a, vs, e, h a _ h0 hz, fun i u e' h1 h2 => FT.of h (q i u e' h1 h2)⟩
  | _ + 1, _, .non, _ => trivial
  | _ + 1, _, .bl _, _ => trivial
  | _ + 1, _, .int _, _ => trivial
  | _ + 1, _, .str _, _ => trivial
  | _ + 1, _, .tup _, _ => trivial
  | _ + 1, _, .dk _, _ => trivial
  | _ + 1, _, .dt _, _ => trivial
  | _ + 1, _, .feed, _ => trivial
  | _ + 1, _, .exn _ _, _ => trivial
section
variable {c : Ct} {own : List Ms} {Z Z' T H H' : Hp} {ρ : En} {φ φ' : Fd} {σ : L2.St} {i n : Nat} {d : D} {v : V}
/-- a slot of which nothing is told any more -/
theorem Rl.hide (R : Rl c own Z ρ φ σ H) (i : Nat) (y : Option V) : Rl c own Z (ρ.set i none) φ (σ.set i y) H := by
  have back : ∀ {j : Nat} {d : D}, (ρ.set i none)[j]? = some (some d) → j ≠ i ∧ ρ[j]? = some (some d) := fun {j d} h => by
    rcases get_set h with ⟨_, q⟩ | ⟨hj, q⟩
    · cases q
    · exact ⟨hj, q⟩
  refine ⟨R.wf, R.ext, by simpa using R.len, fun j d h1 h2 h3 => ?_, fun j d h1 h2 => ?_, fun j k a d e hjk h1 h2 h3 h4 h5 h6 h7 h8 => ?_, fun j d h1 h2 => ?_, fun j d h1 h2 => ?_⟩
  · obtain ⟨hj, q⟩ := back h1
    rw [List.getElem?_set_ne (Ne.symm hj)]
    exact R.sh j d q h2 h3
  · obtain ⟨hj, q⟩ := back h1
    rw [List.getElem?_set_ne (Ne.symm hj)]
    exact R.ow j d q h2
  · obtain ⟨hj, q⟩ := back h3
    obtain ⟨hk, q'⟩ := back h5
    rw [List.getElem?_set_ne (Ne.symm hj)] at h7
    rw [List.getElem?_set_ne (Ne.symm hk)] at h8
    exact R.ne j k a d e hjk h1 h2 q h4 q' h6 h7 h8
  · obtain ⟨hj, q⟩ := back h1
    rw [List.getElem?_set_ne (Ne.symm hj)]
    exact R.pn j d q h2
  · obtain ⟨hj, q⟩ := back h1
    rw [List.getElem?_set_ne (Ne.symm hj)]
    exact R.pk j d q h2
/-- a cell of which nothing is told is written -/
theorem Rl.poke (R : Rl c own Z ρ φ σ H) {b : Addr} {o : HO} (hz : Z b = none) (hc : c.H b = none) (hf : b ≠ c.f) (hb : H b ≠ none)
    (nd : ∀ (j : Nat) (e : D), own[j]? = some .o → ρ[j]? = some (some e) → e.mt = true → σ[j]? = some (some (.ref b)) → False) : Rl c own Z ρ φ σ (upd H b o) := by
  have up : ∀ a u, a ≠ b → H a = some u → upd H b o a = some u := fun a u h q => by rw [upd_ne h]; exact q
  have zne : ∀ a u, Z a = some u → a ≠ b := fun a u q e => by rw [e, hz] at q; cases q
  refine ⟨⟨fun a u q => up a u (zne a u q) (R.wf.sub a u q), R.wf.zf, ?_, R.wf.ok⟩, ⟨R.ext.z, fun a u ha q => ?_, fun a q => ?_, R.ext.n, R.ext.d.trans (.same (upd_ne (Ne.symm hf)))⟩, R.len, R.sh, fun j e h1 h2 => ?_, R.ne, R.pn, R.pk⟩
  · obtain ⟨s, h1, h2⟩ := R.wf.feed
    exact ⟨s, h1, up _ _ (Ne.symm hf) h2⟩
  · exact up a u (fun e => by rw [e, hc] at q; cases q) (R.ext.h a u ha q)
  · by_cases e : a = b
    · rw [e, upd_same]; simp
    · rw [upd_ne e]; exact R.ext.k a q
  · obtain ⟨u, hu, ru⟩ := R.ow j e h1 h2
    refine ⟨u, hu, ?_⟩
    by_cases me : e.mt = true
    · unfold Res at ru ⊢
      rw [if_pos me] at ru ⊢
      obtain ⟨a, o2, rfl, h3, h4, h5, h6, h7⟩ := ru
      exact ⟨a, o2, rfl, h3, h4, h5, up a o2 (fun z => nd j e h2 h1 me (by rw [hu, z])) h6, h7⟩
    · unfold Res at ru ⊢
      rw [if_neg me] at ru ⊢
      exact ru
structure RD (c : Ct) (own : List Ms) (i n : Nat) (Z T : Hp) (ρ : En) (φ : Fd) (σ : L2.St) (H : Hp) (d : D) (v : V) : Prop where
  R : Rl c own Z ρ φ σ H
  un : ρ[i]? = some none
  sv : σ[i]? = some (some v)
  t0 : ∀ a, T a ≠ none → Z a = none ∧ c.H a = none ∧ a ≠ c.f ∧ H a = T a
  rep : Rep c.K c.f (jn Z T) v d
  ft : FT T n v d
  nd : ∀ (j : Nat) (a : Addr) (e : D), own[j]? = some .o → ρ[j]? = some (some e) → e.mt = true → σ[j]? = some (some (.ref a)) → T a = none
theorem RD.enter (R : Rl c own Z ρ φ σ H) (hi : i < ρ.length) (e : Ext c.f Z H Z' H') (w : Wf c.K c.f Z' H' φ') (r : Res (.d n) c.K c.f H Z' H' v d) :
    RD c own i n Z (fun a => match Z a with | some _ => none | none => Z' a) (ρ.set i none) φ' (σ.set i (some v)) H' d v := by
  obtain ⟨e2, w2⟩ := R.wf.back Sub.refl e w
  have R2 := R.more e2 w2
  have tt : ∀ {a : Addr} {o : HO}, (match Z a with | some _ => none | none => Z' a) = some o → Z a = none ∧ Z' a = some o := fun {a o} h => by
    cases e : Z a with
    | none => rw [e] at h; exact ⟨rfl, h⟩
    | some u => rw [e] at h; cases h
  have new : ∀ {a : Addr} {o : HO}, Z a = none → Z' a = some o → H a = none := fun {a o} h1 h2 => Classical.byContradiction fun q => by
    rw [e.n a q h1] at h2; cases h2
  refine ⟨R2.hide i (some v), List.getElem?_set_self hi, List.getElem?_set_self (by rw [R.len]; exact hi), fun a ha => ?_, r.1.mono fun a o q => ?_, FT.of (fun a o h0 q => ?_) r.2, fun j a e' h1 h2 h3 h4 => ?_⟩
  · cases hT : (match Z a with | some _ => none | none => Z' a : Option HO) with
    | none => exact absurd hT ha
    | some o =>
      obtain ⟨h1, h2⟩ := tt hT
      have h3 := new h1 h2
      refine ⟨h1, Classical.byContradiction fun q => R.ext.k a q h3, fun q => ?_, ?_⟩
      · rw [q, w.zf] at h2; cases h2
      · exact w.sub a o h2
  · cases hz : Z a with
    | none => rw [jn_r hz]; simp only [hz]; exact q
    | some u => rw [jn_l hz, ← q]; exact (e.z a u hz).symm
  · have hz : Z a = none := by
      cases hz : Z a with
      | none => rfl
      | some u => rw [R.wf.sub a u hz] at h0; cases h0
    show (match Z a with | some _ => none | none => Z' a) = some o
    rw [hz]
    exact q
  · rcases get_set h2 with ⟨_, q⟩ | ⟨hj, q⟩
    · cases q
    · rw [List.getElem?_set_ne (Ne.symm hj)] at h4
      obtain ⟨u, hu, ru⟩ := R.ow j e' q h1
      rw [h4] at hu
      cases hu
      unfold Res at ru
      rw [if_pos h3] at ru
      obtain ⟨b, o, eb, _, _, _, hb, _⟩ := ru
      cases eb
      cases hT : (match Z a with | some _ => none | none => Z' a : Option HO) with
      | none => rfl
      | some o =>
        obtain ⟨g1, g2⟩ := tt hT
        rw [new g1 g2] at hb
        cases hb
theorem RD.more (D0 : RD c own i n Z T ρ φ σ H d v) (e : Ext c.f Z H Z' H') (w : Wf c.K c.f Z' H' φ') : RD c own i n Z' T ρ φ' σ H' d v := by
  have hT : ∀ a, T a ≠ none → H a ≠ none := fun a ha => by rw [(D0.t0 a ha).2.2.2]; exact ha
  refine ⟨D0.R.more e w, D0.un, D0.sv, fun a ha => ?_, D0.rep.mono fun a o q => ?_, D0.ft, D0.nd⟩
  · obtain ⟨h1, h2, h3, h4⟩ := D0.t0 a ha
    refine ⟨e.n a (hT a ha) h1, h2, h3, ?_⟩
    cases e' : T a with
    | none => exact absurd e' ha
    | some o => exact e.h a o h3 (h4.trans e')
  · rcases jn_or q with q | ⟨q1, q2⟩
    · exact jn_l (e.z a o q)
    · rw [jn_r (e.n a (hT a (by rw [q2]; simp)) q1)]
      exact q2
/-- with the name's data in sight -/
theorem RD.view (D0 : RD c own i n Z T ρ φ σ H d v) (ho : own[i]? = some .s) : Rl c own (jn Z T) (ρ.set i (some d)) φ σ H := by
  have R := D0.R
  have sub : Sub Z (jn Z T) := fun a o q => jn_l q
  have tn : ∀ a, T a = none → jn Z T a = Z a := fun a h => by
    cases e : Z a with
    | none => rw [jn_r e]; exact h
    | some u => exact jn_l e
  refine ⟨⟨fun a o q => ?_, ?_, ?_, R.wf.ok⟩, ⟨fun a o q => sub a o (R.ext.z a o q), R.ext.h, R.ext.k, fun a q1 q2 => ?_, R.ext.d⟩, by simpa using R.len, fun j e h1 h2 h3 => ?_, fun j e h1 h2 => ?_, fun j k a e e' hjk h1 h2 h3 h4 h5 h6 h7 h8 => ?_, fun j e h1 h2 => ?_, fun j e h1 h2 => ?_⟩
  · rcases jn_or q with q | ⟨q1, q2⟩
    · exact R.wf.sub a o q
    · exact (D0.t0 a (by rw [q2]; simp)).2.2.2.trans q2
  · rw [tn _ (Classical.byContradiction fun q => (D0.t0 _ q).2.2.1 rfl)]
    exact R.wf.zf
  · obtain ⟨s, h1, h2⟩ := R.wf.feed
    exact ⟨s, h1.mono fun a o q => jn_l q, h2⟩
  · rw [tn _ (Classical.byContradiction fun q => q1 (D0.t0 _ q).2.1)]
    exact R.ext.n a q1 q2
  · rcases get_set h1 with ⟨rfl, q⟩ | ⟨hj, q⟩
    · cases q
      exact ⟨v, D0.sv, D0.rep⟩
    · obtain ⟨u, hu, ru⟩ := R.sh j e q h2 h3
      exact ⟨u, hu, ru.mono sub⟩
  · rcases get_set h1 with ⟨rfl, q⟩ | ⟨hj, q⟩
    · rw [ho] at h2; cases h2
    · obtain ⟨u, hu, ru⟩ := R.ow j e q h2
      refine ⟨u, hu, ?_⟩
      by_cases me : e.mt = true
      · unfold Res at ru ⊢
        rw [if_pos me] at ru ⊢
        obtain ⟨a, o2, rfl, h3, h4, h5, h6, h7⟩ := ru
        exact ⟨a, o2, rfl, h3, by rw [tn a (D0.nd j a e h2 q me hu)]; exact h4, h5, h6, h7.mono sub⟩
      · unfold Res at ru ⊢
        rw [if_neg me] at ru ⊢
        exact ru.mono sub
  · rcases get_set h3 with ⟨rfl, q⟩ | ⟨hj, q⟩
    · rw [ho] at h1; cases h1
    · rcases get_set h5 with ⟨rfl, q'⟩ | ⟨hk, q'⟩
      · rw [ho] at h2; cases h2
      · exact R.ne j k a e e' hjk h1 h2 q h4 q' h6 h7 h8
  · rcases get_set h1 with ⟨rfl, q⟩ | ⟨hj, q⟩
    · rcases h2 with h2 | h2 <;> rw [ho] at h2 <;> cases h2
    · exact R.pn j e q h2
  · rcases get_set h1 with ⟨rfl, q⟩ | ⟨hj, q⟩
    · rw [ho] at h2; cases h2
    · exact R.pk j e q h2
end
end Pf
namespace Pf
open PySem PySem.Spec PyProof.Rows L2
/-- statements while the data of i lies apart; behind them nothing is told of i -/
def tD (c : Ct) (w : Ow) (own on : List Ms) (i n : Nat) (B : SS) : TS := fun Dn σ H => ∃ Z T ρ φ d v, RD c own i n Z T ρ φ σ H d v ∧ PostS c w on (B (ρ.set i (some d)) φ) Dn Z
abbrev JDs (X : Cx) (c : Ct) (w : Ow) (own on : List Ms) (i n : Nat) (sts : List Stmt) (B : SS) : Prop := PSs X sts (tD c w own on i n B)
theorem set_back {ρ : En} {i : Nat} {d : Option D} (h : ρ[i]? = some none) : (ρ.set i d).set i none = ρ := by
  rw [List.set_set]
  refine List.ext_getElem? fun j => ?_
  by_cases hj : j = i
  · subst hj
    rw [List.getElem?_set_self (List.getElem?_eq_some_iff.mp h).1, h]
  · rw [List.getElem?_set_ne (Ne.symm hj)]
/-- x = e, and what follows sees it apart -/
def sIn (i : Nat) (A : SX) (B : SS) : SS := fun ρ φ => if i < ρ.length then sSeq (sSet i A) B ρ φ else .bad
/-- a statement that doesn't see i -/
def sHid (i : Nat) (S : SS) : SS := fun ρ φ => match S (ρ.set i none) φ with
  | .nx ρ1 φ1 => .nx (ρ1.set i (ρ[i]?.getD none)) φ1
  | r => r
/-- a test that may end the def -/
def sIfD (i : Nat) (T : SB) (Bb : SS) : SS := fun ρ φ => match T ρ φ with
  | .ok true φ1 => (match Bb (ρ.set i none) φ1 with | .rt d φ2 => .rt d φ2 | _ => .bad)
  | .ok false φ1 => .nx ρ φ1
  | _ => .bad
/-- y = x[k]; y.append(e): x and y forgotten -/
def sPoke (i j k : Nat) (A : SX) : SS := fun ρ φ => match ρ[i]? with
  | some (some (.lst ds)) => (match ds[k]? with
    | some (.lst es) => if j < ρ.length ∧ es.length < sizeLine then (A ((ρ.set i none).set j none) φ).toR ((ρ.set i none).set j none) fun _ φ1 => .nx ((ρ.set i none).set j none) φ1 else .bad
    | _ => .bad)
  | _ => .bad
section
variable {X : Cx} {c : Ct} {w : Ow} {own o1 on : List Ms} {pos : Pos} {n : Nat}
theorem jd_enter (i : Nat) {x : Str} {e : Expr} {rest : List Stmt} {A : SX} {B : SS} {pos' : Pos} (hN : X.N.Nodup) (ha : EX X c own (.d n) w.W e A) (hr : JDs X c w own on i n rest B) (hi : X.N[i]? = some x := by rfl) (hx : Loc X.env.scope x := by first | exact Or.inl rfl | exact Or.inr rfl)
    (hs : swapsWith e (some (.Name x pos')) pos.line X.env = pure false := by rfl) (hf : X.fn x = true ∨ X.env.scope.names.lookup x = some .local := by first | exact .inl rfl | exact .inr rfl) (ho : w.ox own := by first | exact trivial | rfl) :
    SJs X c w own on (.Assign [.Name x pos'] e pos :: rest) (sIn i A B) := by
  refine PSs.weak (pss_cons (ps_set hN hi hx ha hs hf) hr) ?_
  rintro Dn σ H ⟨Z, ρ, φ, R0, h⟩
  unfold sIn at h
  by_cases hb : i < ρ.length
  · rw [if_pos hb] at h
    refine ⟨Z, ρ, φ, R0, ?_⟩
    unfold sSeq sSet at h
    cases hA : A ρ φ with
    | bad => rw [hA] at h; exact h.elim
    | ex y l φ1 => rw [hA] at h; exact fun cls dx Z' H' e' w' r => h cls dx σ Z' H' own ho (R0.more e' w') r
    | ok d φ1 =>
      rw [hA] at h
      intro v Z1 H1 e1 w1 r1
      have D0 := RD.enter R0 hb e1 w1 r1
      exact ⟨Z, _, ρ.set i none, φ1, d, v, D0, by rw [List.set_set]; exact h⟩
  · rw [if_neg hb] at h
    exact h.elim
theorem jd_set {i : Nat} (j : Nat) {st : Stmt} {rest : List Stmt} {A : SX} {B : SS} {m : Md} (hst : PS X st (tAsg (tE c own m w.W A) (gName j))) (hij : j ≠ i) (hm : (m = .o ∧ j < own.length ∧ o1 = own.set j .o) ∨ (m = .s ∧ o1 = own.set j .s)) (hr : JDs X c w o1 on i n rest B) (ho : w.ox own := by first | exact trivial | rfl) :
    JDs X c w own on i n (st :: rest) (sSeq (sHid i (sSet j A)) B) := by
  refine PSs.weak (pss_cons hst hr) ?_
  rintro Dn σ H ⟨Z, T, ρ, φ, d, v, D0, h⟩
  refine ⟨Z, ρ, φ, D0.R, ?_⟩
  unfold sSeq sHid sSet at h
  rw [set_back D0.un] at h
  have hl : i < ρ.length := (List.getElem?_eq_some_iff.mp D0.un).1
  cases hA : A ρ φ with
  | bad => rw [hA] at h; exact h.elim
  | ex y l φ1 => rw [hA] at h; exact fun cls dx Z' H' e' w' r => h cls dx σ Z' H' own ho (D0.R.more e' w') r
  | ok z φ1 =>
    rw [hA] at h
    intro u Z1 H1 e1 w1 r1
    have D1 := D0.more e1 w1
    have hh : PostS c w on (B ((ρ.set j (some z)).set i (some d)) φ1) Dn Z := by
      have : ((ρ.set i (some d))[i]?.getD none) = some d := by rw [List.getElem?_set_self hl]; rfl
      have h' : PostS c w on (B ((ρ.set j (some z)).set i ((ρ.set i (some d))[i]?.getD none)) φ1) Dn Z := h
      rw [this] at h'
      exact h'
    refine ⟨Z1, T, ρ.set j (some z), φ1, d, v, ?_, hh.shift e1.z⟩
    have un : (ρ.set j (some z))[i]? = some none := by rw [List.getElem?_set_ne hij]; exact D0.un
    have sv : (σ.set j (some u))[i]? = some (some v) := by rw [List.getElem?_set_ne hij]; exact D0.sv
    rcases hm with ⟨rfl, hi, rfl⟩ | ⟨rfl, rfl⟩
    · refine ⟨D0.R.setO e1 w1 hi r1, un, sv, D1.t0, D1.rep, D1.ft, fun k a e h1 h2 h3 h4 => ?_⟩
      rcases get_set h2 with ⟨rfl, q⟩ | ⟨hk, q⟩
      · cases q
        rcases get_set h4 with ⟨_, q4⟩ | ⟨q4, _⟩
        · cases q4
          unfold Res at r1
          rw [if_pos h3] at r1
          obtain ⟨b, o, eb, hn, _⟩ := r1
          cases eb
          refine Classical.byContradiction fun q => ?_
          rw [(D0.t0 a q).2.2.2] at hn
          exact q hn
        · exact absurd rfl q4
      · rw [List.getElem?_set_ne (Ne.symm hk)] at h1 h4
        exact D1.nd k a e h1 q h3 h4
    · refine ⟨D1.R.setS r1, un, sv, D1.t0, D1.rep, D1.ft, fun k a e h1 h2 h3 h4 => ?_⟩
      rcases get_set h1 with ⟨rfl, q⟩ | ⟨hk, q⟩
      · cases q
      · rw [List.getElem?_set_ne (Ne.symm hk)] at h2 h4
        exact D1.nd k a e q h2 h3 h4
theorem jd_if {i : Nat} {t : Expr} {body rest : List Stmt} {T : SB} {Bb B : SS} (hw : own[i]? = some .s) (ht : BX X c own W0 t T) (hb : SJs X c w own o1 body Bb) (hr : JDs X c w own on i n rest B) :
    JDs X c w own on i n (.If t body [] pos :: rest) (sSeq (sIfD i T Bb) B) := by
  refine PSs.weak (pss_cons (ps_if ht hb pss_nil) hr) ?_
  rintro Dn σ H ⟨Z, T', ρ, φ, d, v, D0, h⟩
  refine ⟨jn Z T', ρ.set i (some d), φ, D0.view hw, ?_⟩
  unfold sSeq sIfD at h
  rw [set_back D0.un] at h
  cases hT : T (ρ.set i (some d)) φ with
  | bad => rw [hT] at h; exact h.elim
  | ex y l φ1 => rw [hT] at h; exact h.elim
  | ok b φ1 =>
    rw [hT] at h
    intro Z1 H1 e1 w1
    obtain ⟨e2, w2⟩ := D0.R.wf.back (fun a o q => jn_l q) e1 w1
    have D1 := D0.more e2 w2
    cases b with
    | false => exact ⟨Z, T', ρ, φ1, d, v, D1, h⟩
    | true =>
      refine ⟨Z, ρ, φ1, D1.R, ?_⟩
      cases hB : Bb ρ φ1 with
      | rt z φ2 =>
        simp only [hB] at h
        exact h
      | nx _ _ => simp only [hB] at h; exact h.elim
      | bk _ _ => simp only [hB] at h; exact h.elim
      | ct _ _ => simp only [hB] at h; exact h.elim
      | ex _ _ _ _ => simp only [hB] at h; exact h.elim
      | bad => simp only [hB] at h; exact h.elim
theorem jd_poke (i j k : Nat) {x y : Str} {e : Expr} {A : SX} {B : SS} {rest : List Stmt} {p1 p2 p3 p4 p5 p6 apos cpos pos2 : Pos} {kk : Nat} (hK : X.K = c.K) (hNd : X.N.Nodup) (ha : EX X c own .s w.W e A) (hr : SJs X c w own on rest B) (hij : j ≠ i := by decide) (hw : own[j]? = some .s := by rfl)
    (hN : X.N[i]? = some x := by rfl) (hv : Vis X.env.scope x := by first | exact Or.inl rfl | exact Or.inr (Or.inl rfl) | exact Or.inr (Or.inr rfl))
    (hd : (x == ("__debug__" : Str)) = false := by decide) (hcd : (x == ("__classdict__" : Str)) = false := by decide)
    (hN' : X.N[j]? = some y := by rfl) (hv' : Vis X.env.scope y := by first | exact Or.inl rfl | exact Or.inr (Or.inl rfl) | exact Or.inr (Or.inr rfl))
    (hd' : (y == ("__debug__" : Str)) = false := by decide) (hcd' : (y == ("__classdict__" : Str)) = false := by decide)
    (hx : Loc X.env.scope y := by first | exact Or.inl rfl | exact Or.inr rfl)
    (hs1 : swapsWith (.Subscript (.Name x p1) (.Constant (.int k) kk p2) p3) (some (.Name y p4)) p5.line X.env = pure false := by rfl) (hf : X.fn y = true ∨ X.env.scope.names.lookup y = some .local := by first | exact .inl rfl | exact .inr rfl)
    (hbase : attributeBase (.Name y p6) "append" X.env (eval (.Name y p6) X.env) = eval (.Name y p6) X.env := by rfl)
    (hfew : ((backTo cpos (starEach [e] X.env)).all (fun x => !x.1) && (backToKw cpos (keywordEach [] X.env)).all (fun x => x.1.isSome) && decide ([e].length + ([] : List Keyword).length + (if ([] : List Keyword).isEmpty then 0 else 1) < 30)) = true := by rfl)
    (hline : (apos.endLine == cpos.line) = true := by rfl) (hse : starEach [e] X.env = (false, eval e X.env) :: starEach [] X.env := by rfl) (hplain : (backTo cpos (starEach [] X.env)).any (·.1) = false := by rfl)
    (hs : swapsWith (.Call (.Attribute (.Name y p6) "append" apos) [e] [] cpos) none pos2.line X.env = pure false := by rfl) (ho : w.ox own := by first | exact trivial | rfl)
    (hpl : PlainIx (.Constant (.int k) kk p2) := by exact fun _ _ => rfl) :
    JDs X c w own on i (n + 2) (.Assign [.Name y p4] (.Subscript (.Name x p1) (.Constant (.int k) kk p2) p3) p5 :: .Expr (.Call (.Attribute (.Name y p6) "append" apos) [e] [] cpos) pos2 :: rest) (sSeq (sPoke i j k A) B) := by
  refine PSs.weak (pss_cons (ps_set hNd hN' hx (pe_ix (ix_seq (X := X)) (pe_var hN hv hd hcd) pe_int hpl) hs1 hf)
    (pss_cons (ps_expr (pe_bm PySem.F.plainAttrs_list PySem.F.slot_list_append PySem.F.type_list_append mt_append (pe_var hN' hv' hd' hcd') (pa_cons ha pa_nil hse) hbase hfew hline hse hplain) hs) hr)) ?_
  rintro Dn σ H ⟨Z, T, ρ, φ, d, v, D0, h⟩
  have hl : i < ρ.length := (List.getElem?_eq_some_iff.mp D0.un).1
  unfold sSeq sPoke at h
  rw [set_back D0.un, List.getElem?_set_self hl, List.length_set] at h
  cases d with
  | lst ds =>
    cases hk : ds[k]? with
    | none => simp only [hk] at h; exact h.elim
    | some z =>
      cases z with
      | lst es =>
        simp only [hk] at h
        by_cases hc : j < ρ.length ∧ es.length < sizeLine
        · rw [if_pos hc] at h
          obtain ⟨a, vs, rfl, hTa, hit⟩ := D0.ft
          have hTa' : T a ≠ none := by rw [hTa]; simp
          have inl : ∀ {b : Addr} {us : List V} {l : List D}, T b = some (.lst us) → Rep c.K c.f (jn Z T) (.ref b) (.lst l) → Reps c.K c.f (jn Z T) us l := fun {b us l} hb r => by
            cases r with
            | cel e rc =>
              rw [jn_r (D0.t0 b (by rw [hb]; simp)).1, hb] at e
              cases e
              cases rc with
              | lst q => exact q
          have rs := inl hTa D0.rep
          obtain ⟨u, hu, ru⟩ := rs.get hk
          obtain ⟨b, us, rfl, hTb, _⟩ := hit k u _ hu hk
          have hTb' : T b ≠ none := by rw [hTb]; simp
          have rs' := inl hTb ru
          obtain ⟨z1, z2, z3, z4⟩ := D0.t0 b hTb'
          have hHb : H b = some (.lst us) := z4.trans hTb
          have hHa : H a = some (.lst vs) := ((D0.t0 a hTa').2.2.2).trans hTa
          refine ⟨.ref a, D0.sv, .inl ⟨a, vs, k, .ref b, rfl, rfl, SqL.of hHa, atI_nat hu, ?_⟩⟩
          have R1 := D0.R.hide j (some (.ref b))
          refine ⟨.ref b, List.getElem?_set_self (by rw [D0.R.len]; exact hc.1), .inl ⟨rfl, us, SqL.of hHb⟩, Z, _, φ, R1, ?_⟩
          have h' : PostS c w on (((A (ρ.set j none) φ).toR (ρ.set j none) fun _ φ1 => .nx (ρ.set j none) φ1).seq B) Dn Z := h
          cases hA : A (ρ.set j none) φ with
          | bad => rw [hA] at h'; exact h'.elim
          | ex y l φ1 => rw [hA] at h'; exact fun cls dx Z' H' e' w' r => h' cls dx _ Z' H' own ho (R1.more e' w') r
          | ok z φ1 =>
            rw [hA] at h'
            intro x Z1 H1 e1 w1 r1
            have hH1 : H1 b = some (.lst us) := e1.h b _ z3 hHb
            refine ⟨b, us, x, rfl, rfl, hH1, by rw [rs'.length]; exact hc.2, Z1, _, φ1, (R1.more e1 w1).poke (e1.n b (by rw [hHb]; simp) z1) z2 z3 (by rw [hH1]; simp) (fun k' e h1 h2 h3 h4 => ?_), PostS.shift h' e1.z⟩
            rcases get_set h2 with ⟨_, q⟩ | ⟨hk', q⟩
            · cases q
            · rw [List.getElem?_set_ne (Ne.symm hk')] at h4
              exact hTb' (D0.nd k' b e h1 q h3 h4)
        · rw [if_neg hc] at h; exact h.elim
      | _ => simp only [hk] at h; exact h.elim
  | _ => exact h.elim
theorem r_set (i : Nat) {m : Md} {x : Str} {e : Expr} {A : SX} {pos' : Pos} (hN : X.N.Nodup) (ha : EX X c own m w.W e A) (hi : X.N[i]? = some x := by rfl) (hx : Loc X.env.scope x := by first | exact Or.inl rfl | exact Or.inr rfl)
    (hs : swapsWith e (some (.Name x pos')) pos.line X.env = pure false := by rfl) (hf : X.fn x = true ∨ X.env.scope.names.lookup x = some .local := by first | exact .inl rfl | exact .inr rfl) :
    PS X (.Assign [.Name x pos'] e pos) (tAsg (tE c own m w.W A) (gName i)) := ps_set hN hi hx ha hs hf
theorem r_setLc (i : Nat) {y : Str} {py : Pos} {elt tg iter : Expr} {ifs : List Expr} {scope : Scope} (nm : List (Str × Nat)) {is : List Nat} {I : SA} {T : Tg} {tst : SB} {elt' : SX} {lcp : Pos} (hc : X.calm = true) (hN : X.N.Nodup) (ok : blkC X.N X.env.scope scope nm = true)
    (hi : IJ X c own true w.W tg iter I)
    (hg : ∀ (s : Shared) (H : Hp) (C : Addr) (cl : List (Str × Addr)) (fp : List Addr), TJ (X.blk s H scope (compEnvC scope cl C X.env) fp) c (ownB own (nm.map (·.2))) o1 is tg T)
    (ht : ∀ (s : Shared) (H : Hp) (C : Addr) (cl : List (Str × Addr)) (fp : List Addr), PTs (X.blk s H scope (compEnvC scope cl C X.env) fp) ifs (tB c o1 W0 tst))
    (he : ∀ (s : Shared) (H : Hp) (C : Addr) (cl : List (Str × Addr)) (fp : List Addr), EX (X.blk s H scope (compEnvC scope cl C X.env) fp) c o1 .s W0 elt elt')
    (hy : X.N[i]? = some y := by rfl) (hyl : X.env.scope.names.lookup y = some .local := by rfl) (hsw : swapsWith (.ListComp elt [⟨tg, iter, ifs, 0⟩] scope lcp) (some (.Name y py)) pos.line X.env = pure true := by exact sw_true rfl rfl rfl (by decide +kernel))
    (hs : ∀ x, foldedSetIterable iter X.env x = pure x := by intro _; rfl) (hsub : ∀ j ∈ is, j ∈ nm.map (·.2) := by decide) :
    PS X (.Assign [.Name y py] (.ListComp elt [⟨tg, iter, ifs, 0⟩] scope lcp) pos) (tAsg (tE c own .o w.W (eLc I T tst elt' (nm.map (·.2)))) (gName i)) :=
  PS.weak (ps_setLc hc hN hy hyl hsw hi (blkOk_by ok) hg ht he hs) fun Dn σ H h => lc_read hsub h
end
end Pf

set_option Elab.async false
set_option linter.all false
set_option maxRecDepth 100000
set_option maxHeartbeats 4000000
namespace Pf
open PySem PySem.Spec PyProof.Rows L2

/-! ## dicts: d[k] = x, k in d -/
section
variable {X : Cx} {c : Ct} {w : Ow} {own on o1 : List Ms} {m : Md} {W : WX} {pos : Pos} {A B : SX} {o k : Expr}
theorem Rl.cellK {Z H : Hp} {ρ : En} {φ : Fd} {σ : L2.St} (R0 : Rl c own Z ρ φ σ H) {i : Nat} {ds : List (Key × D)} (ho : own[i]? = some .o) (hd : ρ[i]? = some (some (.dk ds))) : ∃ a vs, σ[i]? = some (some (.ref a)) ∧ H a = some (.dK vs) ∧ KReps c.K c.f Z vs ds ∧ Z a = none := by
  obtain ⟨u, hu, ru⟩ := R0.ow i _ hd ho
  unfold Res at ru
  rw [if_pos (by rfl)] at ru
  obtain ⟨a, o, rfl, _, hz, _, ha, rc⟩ := ru
  cases rc with
  | dk q => exact ⟨a, _, hu, ha, q, hz⟩
def sPutK (i : Nat) (A B : SX) : SS := fun ρ φ => (A ρ φ).toR ρ fun d φ1 => match ρ[i]? with
  | some (some (.dk l)) => (B ρ φ1).toR ρ fun k φ2 => (match keyD k with
    | some key => if l.length < sizeLine then .nx (ρ.set i (some (.dk (putD l key d)))) φ2 else .bad
    | _ => .bad)
  | _ => .bad
theorem s_putK (i : Nat) {x : Str} {e k : Expr} {A B : SX} {p p2 : Pos} (hu : X.A.units + 64 < cLine) (ha : EX X c own .s w.W e A) (hk : EX X c own .p w.W k B) (hw : own[i]? = some .o := by rfl) (hN : X.N[i]? = some x := by rfl) (hv : Vis X.env.scope x := by first | exact Or.inl rfl | exact Or.inr (Or.inl rfl) | exact Or.inr (Or.inr rfl))
    (hd : (x == ("__debug__" : Str)) = false := by decide) (hcd : (x == ("__classdict__" : Str)) = false := by decide)
    (hst : ∀ v, assign (.Subscript (.Name x p) k p2) X.env v = (do
      let ov ← holding [v] (eval (.Name x p) X.env)
      let iv ← holding [v, ov] (eval k X.env)
      standAt p2
      holding [v, ov, iv] (setItem ov iv v)
      release [v, ov, iv] []) := by intro _; rfl)
    (hs : swapsWithSole [.Subscript (.Name x p) k p2] e pos.line X.env = pure false := by rfl) (hsw : swappedStores [.Subscript (.Name x p) k p2] e X.env = pure none := by rfl)
    (h1 : (assignEach [.Subscript (.Name x p) k p2] X.env).map (·.2) = [assign (.Subscript (.Name x p) k p2) X.env] := by rfl) (ho : w.ox own := by first | exact trivial | rfl) :
    SJ X c w own own (.Assign [.Subscript (.Name x p) k p2] e pos) (sPutK i A B) := by
  refine PS.weak (ps_asg ha (pg_sub (pe_var hN hv hd hcd) hk (set_dict (by omega)) hst) hs hsw h1) ?_
  rintro Dn σ H ⟨Z, ρ, φ, R0, h⟩
  refine ⟨Z, ρ, φ, R0, Post.toS (w := w) ho R0 h fun d φ1 v Z1 H1 e1 w1 r1 h1 => ?_⟩
  split at h1
  · rename_i l hdd
    have R1 := R0.more e1 w1
    obtain ⟨a, vs, hav, hH, rs, hz⟩ := R1.cellK hw hdd
    refine ⟨.ref a, hav, Z1, ρ, φ1, R1, Post.toS (w := w) ho R1 h1 fun kd φ2 kv Z2 H2 e2 w2 r2 h2 => ?_⟩
    have R2 := R1.more e2 w2
    obtain ⟨b, us, hb, hH2, rs2, hz2⟩ := R2.cellK hw hdd
    rw [hav] at hb
    cases hb
    cases hk : keyD kd with
    | none => simp only [hk] at h2; exact h2.elim
    | some key =>
      simp only [hk] at h2
      by_cases hl : l.length < sizeLine
      · rw [if_pos hl] at h2
        have hy : kv = kV key := keyD_rep r2 hk
        refine ⟨a, _, rfl, by rw [hy]; exact DPut.k hH2 (by rw [rs2.length]; exact hl), ?_⟩
        exact h2 σ Z2 _ Sub.refl (R2.write hw hdd rfl hav (.dk (rs2.put (Rep.mono e2.z r1))))
      · rw [if_neg hl] at h2; exact h2.elim
  · exact h1.elim
/-- k in d: b true for «not in» -/
def eDIn (neg : Bool) (A B : SX) : SX := fun ρ φ => (A ρ φ).bind fun kd φ1 => (B ρ φ1).bind fun d φ2 => match d with
  | .dk l => (match keyD kd with
    | some key => .ok (.bl (if neg = true then !(valD l key).isSome else (valD l key).isSome)) φ2
    | none => .bad)
  | _ => .bad
theorem din_core {neg : Bool} {σ : L2.St} {H : Hp} {Q : VK} (h : tE c own m W (eDIn neg A B) σ H Q) :
    tE c own .p W A σ H fun y H1 => tE c own .p W B σ H1 fun x H2 => ∃ a o, x = V.ref a ∧ DGet H2 a y o ∧ Q (.bl (if neg = true then !o.isSome else o.isSome)) H2 := by
  obtain ⟨Z, ρ, φ, R, h⟩ := h
  refine ⟨Z, ρ, φ, R, Post.bindE h fun kd φ1 y Z1 H1 e1 w1 r1 h1 => ?_⟩
  refine ⟨Z1, ρ, φ1, R.more e1 w1, Post.bindE h1 fun d φ2 x Z2 H2 e2 w2 r2 h2 => ?_⟩
  cases d with
  | dk l =>
    obtain ⟨a, kvs, rfl, ha, rk⟩ := (show Res .p c.K c.f H2 Z2 H2 x (.dk l) from r2).dk w2
    cases hk : keyD kd with
    | none => simp only [hk] at h2; exact h2.elim
    | some key =>
      simp only [hk] at h2
      have hy : y = kV key := keyD_rep (r1.pmono e2) hk
      refine ⟨a, valV kvs key, rfl, by rw [hy]; exact DGet.k ha, ?_⟩
      have : (valV kvs key).isSome = (valD l key).isSome := by
        cases e : valD l key with
        | none => rw [rk.miss e]; rfl
        | some z =>
          obtain ⟨u, e4, _⟩ := rk.hit e
          rw [e4]; rfl
      rw [this]
      exact h2.nowB w2
  | _ => exact h2.elim
theorem x_din (hu : X.A.units + 64 < cLine) (hk : EX X c own .p W k A) (ho : EX X c own .p W o B) (hm : behindInMarks .In o = false := by rfl) : EX X c own .o W (.Compare k [.In] [o] pos) (eDIn false A B) :=
  PE.weak (pe_cmp (pc_din (by omega) hk ho) hm) fun σ H Q h => din_core h
theorem x_dnotin (hu : X.A.units + 64 < cLine) (hk : EX X c own .p W k A) (ho : EX X c own .p W o B) (hm : behindInMarks .NotIn o = false := by rfl) : EX X c own .o W (.Compare k [.NotIn] [o] pos) (eDIn true A B) :=
  PE.weak (pe_cmp (pc_dnotin (by omega) hk ho) hm) fun σ H Q h => din_core h
theorem b_dcore {neg : Bool} {σ : L2.St} {H : Hp} {Q : Bool → Hp → Prop} (h : tB c own W (bVal (eDIn neg A B)) σ H Q) : tE c own .o W (eDIn neg A B) σ H fun v H' => ∃ b, v = .bl b ∧ Q b H' := by
  obtain ⟨Z, ρ, φ, R, h⟩ := h
  refine ⟨Z, ρ, φ, R, Post.bindB h fun d φ1 v Z1 H1 e1 w1 r1 h1 => ?_⟩
  cases d with
  | bl b => exact ⟨b, r1.bl, h1 Z1 H1 .refl w1⟩
  | _ => exact h1.elim
theorem b_din (hu : X.A.units + 64 < cLine) (hk : EX X c own .p W k A) (ho : EX X c own .p W o B) (hm : behindInMarks .In o = false := by rfl) : BX X c own W (.Compare k [.In] [o] pos) (bVal (eDIn false A B)) :=
  PT.weak (pt_cmp (pc_din (by omega) hk ho) hm) fun σ H Q h => din_core (b_dcore h)
theorem b_dnotin (hu : X.A.units + 64 < cLine) (hk : EX X c own .p W k A) (ho : EX X c own .p W o B) (hm : behindInMarks .NotIn o = false := by rfl) : BX X c own W (.Compare k [.NotIn] [o] pos) (bVal (eDIn true A B)) :=
  PT.weak (pt_cmp (pc_dnotin (by omega) hk ho) hm) fun σ H Q h => din_core (b_dcore h)
end

/-! ## for y in x: y.append(e), x's data apart -/
def pokeGo (A : SX) (ρ : En) : Nat → Fd → Option Fd
  | 0, φ => some φ
  | n + 1, φ => match A ρ φ with
    | .ok _ φ1 => pokeGo A ρ n φ1
    | _ => none
def pokB (n : Nat) : D → Bool
  | .lst es => decide (es.length ≤ 1000) && decide (es.length ≠ n)
  | _ => false
def sPokeAll (i j : Nat) (A : SX) : SS := fun ρ φ => match ρ[i]? with
  | some (some (.lst ds)) => if j < ρ.length ∧ ds.length ≤ 1000 ∧ ds.all (pokB ds.length) = true then (match pokeGo A ((ρ.set i none).set j none) ds.length φ with
      | some φ1 => .nx ((ρ.set i none).set j none) φ1
      | none => .bad) else .bad
  | _ => .bad
section
variable {X : Cx} {c : Ct} {w : Ow} {own o1 on : List Ms} {pos : Pos} {n : Nat}
theorem Rl.hideR {Z H : Hp} {ρ : En} {φ : Fd} {σ : L2.St} (R : Rl c own Z ρ φ σ H) {i : Nat} (h : ρ[i]? = some none) (y : Option V) : Rl c own Z ρ φ (σ.set i y) H := by
  have := R.hide i y
  have e : ρ.set i none = ρ := by
    refine List.ext_getElem? fun j => ?_
    by_cases hj : j = i
    · subst hj
      rw [List.getElem?_set_self (List.getElem?_eq_some_iff.mp h).1, h]
    · rw [List.getElem?_set_ne (Ne.symm hj)]
  rw [e] at this
  exact this
theorem jd_pokeAll (i j : Nat) {x y : Str} {e : Expr} {A : SX} {B : SS} {rest : List Stmt} {p1 p4 p6 fpos apos cpos pos2 : Pos} (hK : X.K = c.K) (hps : PassesOwn (model X.prog X.w) X.A X.env X.xe) (hcalm : X.calm = true) (hNd : X.N.Nodup) (ha : EX X c own .s w.W e A) (hr : SJs X c w own on rest B) (hij : j ≠ i := by decide) (hw : own[j]? = some .s := by rfl)
    (hN : X.N[i]? = some x := by rfl) (hv : Vis X.env.scope x := by first | exact Or.inl rfl | exact Or.inr (Or.inl rfl) | exact Or.inr (Or.inr rfl))
    (hd : (x == ("__debug__" : Str)) = false := by decide) (hcd : (x == ("__classdict__" : Str)) = false := by decide)
    (hN' : X.N[j]? = some y := by rfl) (hv' : Vis X.env.scope y := by first | exact Or.inl rfl | exact Or.inr (Or.inl rfl) | exact Or.inr (Or.inr rfl))
    (hd' : (y == ("__debug__" : Str)) = false := by decide) (hcd' : (y == ("__classdict__" : Str)) = false := by decide)
    (hx : Loc X.env.scope y := by first | exact Or.inl rfl | exact Or.inr rfl)
    (hf : X.fn y = true ∨ X.env.scope.names.lookup y = some .local := by first | exact .inl rfl | exact .inr rfl)
    (hbase : attributeBase (.Name y p6) "append" X.env (eval (.Name y p6) X.env) = eval (.Name y p6) X.env := by rfl)
    (hfew : ((backTo cpos (starEach [e] X.env)).all (fun x => !x.1) && (backToKw cpos (keywordEach [] X.env)).all (fun x => x.1.isSome) && decide ([e].length + ([] : List Keyword).length + (if ([] : List Keyword).isEmpty then 0 else 1) < 30)) = true := by rfl)
    (hline : (apos.endLine == cpos.line) = true := by rfl) (hse : starEach [e] X.env = (false, eval e X.env) :: starEach [] X.env := by rfl) (hplain : (backTo cpos (starEach [] X.env)).any (·.1) = false := by rfl)
    (hs : swapsWith (.Call (.Attribute (.Name y p6) "append" apos) [e] [] cpos) none pos2.line X.env = pure false := by rfl) (ho : w.ox own := by first | exact trivial | rfl)
    (hfs : ∀ v, foldedSetIterable (.Name x p1) X.env v = pure v := by intro _; rfl) :
    JDs X c w own on i (n + 2) (.For (.Name y p4) (.Name x p1) [.Expr (.Call (.Attribute (.Name y p6) "append" apos) [e] [] cpos) pos2] [] fpos :: rest) (sSeq (sPokeAll i j A) B) := by
  refine PSs.weak (pss_cons (ps_for hps hcalm (pi_list (pe_var hN hv hd hcd)) (pg_name hNd hN' hx hf)
    (pss_cons (ps_expr (pe_bm PySem.F.plainAttrs_list PySem.F.slot_list_append PySem.F.type_list_append mt_append (pe_var hN' hv' hd' hcd') (pa_cons ha pa_nil hse) hbase hfew hline hse hplain) hs) pss_nil) hfs) hr) ?_
  rintro Dn σ H ⟨Z, T, ρ, φ, d, v, D0, h⟩
  have hl : i < ρ.length := (List.getElem?_eq_some_iff.mp D0.un).1
  unfold sSeq sPokeAll at h
  rw [set_back D0.un, List.getElem?_set_self hl, List.length_set] at h
  cases d with
  | lst ds =>
    simp only at h
    by_cases hc : j < ρ.length ∧ ds.length ≤ 1000 ∧ ds.all (pokB ds.length) = true
    · rw [if_pos hc] at h
      obtain ⟨hc1, hc2, hc3⟩ := hc
      cases hgo : pokeGo A (ρ.set j none) ds.length φ with
      | none => simp only [hgo] at h; exact h.elim
      | some φe =>
        simp only [hgo] at h
        obtain ⟨a, vs, rfl, hTa, hit⟩ := D0.ft
        have hTa' : T a ≠ none := by rw [hTa]; simp
        have inl : ∀ {b : Addr} {us : List V} {l : List D}, T b = some (.lst us) → Rep c.K c.f (jn Z T) (.ref b) (.lst l) → Reps c.K c.f (jn Z T) us l := fun {b us l} hb r => by
          cases r with
          | cel e rc =>
            rw [jn_r (D0.t0 b (by rw [hb]; simp)).1, hb] at e
            cases e
            cases rc with
            | lst q => exact q
        have rs := inl hTa D0.rep
        have hHa : H a = some (.lst vs) := ((D0.t0 a hTa').2.2.2).trans hTa
        -- each item: a cell in T, other than a
        have item : ∀ (k : Nat) (u : V), vs[k]? = some u → ∃ b us, u = .ref b ∧ T b = some (.lst us) ∧ us.length ≤ 1000 ∧ b ≠ a := fun k u hu => by
          obtain ⟨dk, hdk, ru⟩ := rs.getV hu
          rw [List.all_eq_true] at hc3
          have hp := hc3 dk (List.mem_of_getElem? hdk)
          cases dk with
          | lst es =>
            have hp' : (decide (es.length ≤ 1000) && decide (es.length ≠ ds.length)) = true := hp
            rw [Bool.and_eq_true, decide_eq_true_eq, decide_eq_true_eq] at hp'
            obtain ⟨b, us, rfl, hTb, _⟩ := hit k u _ hu hdk
            have rs' := inl hTb ru
            refine ⟨b, us, rfl, hTb, by rw [rs'.length]; exact hp'.1, fun e => ?_⟩
            rw [e, hTa] at hTb
            cases hTb
            exact hp'.2 (by rw [← rs'.length, rs.length])
          | _ => cases hp
        show L2.tFor _ _ _ _ _ _
        refine ⟨.ref a, D0.sv, a, rfl, ⟨vs, SqL.of hHa⟩, ?_⟩
        have R0 : Rl c own Z (ρ.set j none) φ σ H := by
          have hj2 : ∃ y, σ[j]? = some y := ⟨σ[j]'(by rw [D0.R.len]; exact hc1), List.getElem?_eq_getElem (by rw [D0.R.len]; exact hc1)⟩
          obtain ⟨y, hy⟩ := hj2
          have := D0.R.hide j y
          have e : σ.set j y = σ := by
            refine List.ext_getElem? fun k => ?_
            by_cases hk : k = j
            · subst hk
              rw [List.getElem?_set_self (List.getElem?_eq_some_iff.mp hy).1, hy]
            · rw [List.getElem?_set_ne (Ne.symm hk)]
          rw [e] at this
          exact this
        have rj : (ρ.set j none)[j]? = some none := List.getElem?_set_self hc1
        refine ⟨fun k m σn Hn => m = ds.length - k ∧ k ≤ ds.length ∧ ∃ Zn φn, Sub Z Zn ∧ Rl c own Zn (ρ.set j none) φn σn Hn ∧ pokeGo A (ρ.set j none) (ds.length - k) φn = some φe ∧ Hn a = some (.lst vs) ∧
            (∀ b, T b ≠ none → Zn b = none ∧ Hn b ≠ none) ∧ (∀ (q : Nat) b, vs[q]? = some (.ref b) → ∃ us, Hn b = some (.lst us) ∧ us.length ≤ 1000 + k) ∧ (∀ (q : Nat) (b : Addr) (e : D), own[q]? = some .o → (ρ.set j none)[q]? = some (some e) → e.mt = true → σn[q]? = some (some (.ref b)) → T b = none),
          ⟨ds.length, by simp, Nat.zero_le _, Z, φ, Sub.refl, R0, by simpa using hgo, hHa, fun b hb => ⟨(D0.t0 b hb).1, by rw [(D0.t0 b hb).2.2.2]; exact hb⟩, fun q b hq => ?_, fun q b e h1 h2 h3 h4 => ?_⟩, ?_⟩
        · obtain ⟨b', us, eb, hTb, hul, _⟩ := item q _ hq
          cases eb
          exact ⟨us, ((D0.t0 b (by rw [hTb]; simp)).2.2.2).trans hTb, by omega⟩
        · rcases get_set h2 with ⟨_, q⟩ | ⟨hq, q2⟩
          · cases q
          · exact D0.nd q b e h1 q2 h3 h4
        · rintro k m σn Hn ⟨rfl, hk, Zn, φn, kz, Rn, hg, hna, hzT, hcell, hnd⟩
          by_cases hlt : k < ds.length
          · have hkv : k < vs.length := by rw [rs.length]; exact hlt
            obtain ⟨u, hu⟩ : ∃ u, vs[k]? = some u := ⟨_, List.getElem?_eq_getElem hkv⟩
            obtain ⟨b, us0, rfl, hTb, _, hba⟩ := item k u hu
            obtain ⟨us, hHb, hul⟩ := hcell k b hu
            have hTb' : T b ≠ none := by rw [hTb]; simp
            obtain ⟨z1, z2, z3, z4⟩ := D0.t0 b hTb'
            refine .inr ⟨⟨vs, .ref b, SqL.of hna, hu⟩, fun σ' H' => ∃ m', m' < ds.length - k ∧ (m' = ds.length - (k + 1) ∧ k + 1 ≤ ds.length ∧ ∃ Zn φn, Sub Z Zn ∧ Rl c own Zn (ρ.set j none) φn σ' H' ∧ pokeGo A (ρ.set j none) (ds.length - (k + 1)) φn = some φe ∧ H' a = some (.lst vs) ∧
              (∀ b, T b ≠ none → Zn b = none ∧ H' b ≠ none) ∧ (∀ (q : Nat) b, vs[q]? = some (.ref b) → ∃ us, H' b = some (.lst us) ∧ us.length ≤ 1000 + (k + 1)) ∧ (∀ (q : Nat) (b : Addr) (e : D), own[q]? = some .o → (ρ.set j none)[q]? = some (some e) → e.mt = true → σ'[q]? = some (some (.ref b)) → T b = none)), fun _ _ q => q, fun xv Hx hx => ?_⟩
            obtain ⟨rfl, hx2⟩ := hx
            have hxv := hx2 vs (SqL.of hna)
            rw [hu] at hxv
            cases hxv
            have R1 := Rn.hideR rj (some (.ref b))
            refine ⟨.ref b, List.getElem?_set_self (by rw [Rn.len, List.length_set]; exact hc1), .inl ⟨rfl, us, SqL.of hHb⟩, Zn, _, φn, R1, ?_⟩
            have hs' : ds.length - k = (ds.length - (k + 1)) + 1 := by omega
            rw [hs'] at hg
            unfold pokeGo at hg
            cases hA : A (ρ.set j none) φn with
            | bad => rw [hA] at hg; cases hg
            | ex _ _ _ => rw [hA] at hg; cases hg
            | ok z φ1 =>
              rw [hA] at hg
              intro xw Z1 H1 e1 w1 r1
              have hH1 : H1 b = some (.lst us) := e1.h b _ z3 hHb
              have haf : a ≠ c.f := (D0.t0 a hTa').2.2.1
              refine ⟨b, us, xw, rfl, rfl, hH1, by rw [sizeLine_eq]; omega, ds.length - (k + 1), by omega, rfl, hlt, Z1, φ1, kz.trans e1.z, (R1.more e1 w1).poke (e1.n b (by rw [hHb]; simp) (hzT b hTb').1) z2 z3 (by rw [hH1]; simp) (fun q e h1 h2 h3 h4 => ?_), hg, ?_, fun b' hb' => ?_, fun q b' hq => ?_, fun q b' e h1 h2 h3 h4 => ?_⟩
              · rcases get_set h4 with ⟨rfl, _⟩ | ⟨hq, q4⟩
                · rw [hw] at h1; cases h1
                · exact hTb' (hnd q b e h1 h2 h3 q4)
              · rw [upd_ne (Ne.symm hba)]
                exact e1.h a _ haf hna
              · refine ⟨e1.n b' (hzT b' hb').2 (hzT b' hb').1, ?_⟩
                by_cases hbb : b' = b
                · rw [hbb, upd_same]; simp
                · rw [upd_ne hbb]; exact e1.k b' (hzT b' hb').2
              · obtain ⟨us2, h5, h6⟩ := hcell q b' hq
                by_cases hbb : b' = b
                · subst hbb
                  rw [hHb] at h5
                  cases h5
                  exact ⟨us ++ [xw], upd_same, by rw [List.length_append, List.length_singleton]; omega⟩
                · obtain ⟨_, _, eb2, hTb2, _, _⟩ := item q _ hq
                  cases eb2
                  exact ⟨us2, by rw [upd_ne hbb]; exact e1.h b' _ ((D0.t0 b' (by rw [hTb2]; simp)).2.2.1) h5, by omega⟩
              · rcases get_set h4 with ⟨rfl, _⟩ | ⟨hq, q4⟩
                · rw [hw] at h1; cases h1
                · exact hnd q b' e h1 h2 h3 q4
          · have hke : k = ds.length := by omega
            refine .inl ⟨⟨vs, SqL.of hna, by rw [rs.length, hke]; exact Nat.le_refl _⟩, ?_⟩
            rw [hke, Nat.sub_self] at hg
            cases hg
            exact ⟨Zn, _, _, Rn, PostS.shift h kz⟩
    · rw [if_neg hc] at h; exact h.elim
  | _ => exact h.elim
end
end Pf

set_option Elab.async false
set_option linter.all false
set_option maxRecDepth 100000
set_option maxHeartbeats 4000000
namespace PySem.W
open PySem PySem.Calls PyProof.Rows PyProof.V PySem.Spec
section
variable {prog : Program} {w : World} {A : Around} {E : Value → Shared → Prop} {s : Shared} {Q : Value → Shared → Prop} {T : String} {r d : Addr} {n : Nat} {P : Nat → Value → Prop} {OK : Heap → Prop}
theorem sorted_src (K : KdlSrc prog w T r d n P OK) (hh : A.handled = none) (hok : OK s.heap) (hn : n ≤ sizeLine)
    (h : ∀ (h' : Heap) (tk : Nat) (its : List Value), (∀ b o, s.heap.get? b = some o → h'.get? b = some o) → its.length = n → (∀ j v, its[j]? = some v → P j v) →
      ∃ κ, SortsAt prog w A.in1.in1 { s with heap := sortingHeap (h'.push (seqObj "list" its.toArray 0)) h'.objs.size its, toks := tk } κ its ∧
        Q (.ref h'.objs.size) { s with heap := sortedHeap (h'.push (seqObj "list" its.toArray 0)) h'.objs.size its (sortVals κ false its its).toArray, toks := tk }) :
    wpAny (model prog w) A (call (.builtin "sorted") [.ref r]) Q E s := by
  refine call_function_entry kind_sorted plain_sorted entry_sorted (args_sorted1 _) ?_
  unfold Builtin.«sorted»
  refine wpAny_bind (m := checkCount "sorted" 1 1 _) (wpAny_pure ?_)
  refine wpAny_bind (kdu_collect (A := A.in1) K hh hok hn fun h' tk acc hk hacc => ?_)
  have hl : acc.toList.length = n := by rw [Array.length_toList]; exact hacc.1
  refine wpAny_bind (wpAny_newList ?_ (by rw [hl]; exact hn))
  obtain ⟨κ, S, q⟩ := h h' tk acc.toList hk hl (fun j v e => hacc.2 j v (by rw [← Array.getElem?_toList]; exact e))
  have ho : (h'.push (seqObj "list" acc.toList.toArray 0)).get? h'.objs.size = some (seqObj "list" acc.toList.toArray 0) := Heap.get?_push_size _ rfl
  show wpAny _ _ _ _ _ { s with heap := h'.push (seqObj "list" acc.toList.toArray 0), toks := tk }
  refine wpAny_bind (wpAny_holding (wpAny_call_entry slot_list_sort ⟨_, ho, rfl⟩ entry_list_sort ?body (args_list_sort _)))
  case body =>
    exact list_sort_vals (s := { s with heap := h'.push (seqObj "list" acc.toList.toArray 0), toks := tk }) ho S (by rw [hl]; exact hn) ⟨_, rfl, wpAny_pure ⟨_, rfl, q⟩⟩
end
end PySem.W
namespace Pf
open PySem PySem.Spec PyProof.Rows L2
/-! ## sorted(d.values()), keys that are tuples -/
def rSortV (K : PySem.W.Frag) : V → Hp → VK → Prop := fun x H Q => ∃ (a : Addr) (kvs : List (List Key × V)) (ps : List (V × PyData)), x = V.ref a ∧ H a = some (.dT kvs) ∧ kvs.map (·.2) = ps.map Prod.fst ∧ (∀ p ∈ ps, Dp K H p.1 p.2) ∧
  (∀ p ∈ ps, ∀ q ∈ ps, PySem.W.alike p.2 q.2 = true) ∧ (∀ p ∈ ps, SeqAt.shaped p.2 = true) ∧ PySem.W.Sortable (ps.map Prod.snd) ∧ ∀ (p : Addr), H p = none → Q (.ref p) (upd H p (.lst ((ps.mergeSort leP).map Prod.fst)))
section
variable {X : Cx} {o : Expr} {p pos apos mpos : Pos} {td : TE}
theorem pair_vals {H : Hp} {kvs : List (List Key × V)} {xs : List (List Key × Addr × Value)} (r : KT H kvs xs) : Vals (kvs.map (·.2)) (xs.map (·.2.2)) := by
  unfold KT at r
  induction r with
  | nil => exact .nil
  | cons h t ih => exact .cons h.2.2 ih
theorem pe_sortVals (hc : X.calm = true) (hu : X.A.units + 66 < cLine) (hg : Gl X "sorted") (hm : X.mg "sorted" = none) (hd : PE X o td) (hbase : attributeBase o "values" X.env (eval o X.env) = eval o X.env := by rfl) (hline : (apos.endLine == mpos.line) = true := by rfl)
    (hse : starEach [Expr.Call (.Attribute o "values" apos) [] [] mpos] X.env = [(false, eval (Expr.Call (.Attribute o "values" apos) [] [] mpos) X.env)] := by rfl) :
    PE X (.Call (.Name "sorted" p) [.Call (.Attribute o "values" apos) [] [] mpos] [] pos) (fun σ H Q => td σ H fun x H1 => rSortV X.K x H1 Q) := by
  refine ⟨fun pins s σ H Q I h => ?_⟩
  refine wpAny_Call_Name_kw (ld_blt I hg hm (u := .builtin "sorted") (by first | rfl | decide +kernel) ?_ (by first | decide +kernel | decide) (by first | decide +kernel | decide))
  rw [hse]
  refine PySem.callWith_builtin1 (wpAny_Call_method0_late hbase hline (thn (hd.run pins s σ H _ I h) fun v s1 ⟨x, H1, I1, r1, a, kvs, ps, ex, ha, hv, hdp, hal, hsh, hst, q⟩ => ?_))
  subst ex
  obtain rfl : v = Value.ref a := r1
  obtain ⟨z, hsys, xs', rel, o', es, ep, ho, hx, hdat, hes, his, hn⟩ := dt_of I1.hok ha
  refine ⟨"dict", "dict.values", F.plainAttrs_dict, F.slot_dict_values, F.type_dict_values, ⟨o', ho, hx.1⟩, fun b e => ?_, Calls.callWith_builtin rfl (PySem.evalArgs_none ?_)⟩
  · cases e
    exact ⟨o', ho, hx.2.1⟩
  have hraw : s1.heap.DictRaw a es ep := ⟨o', ho, hx, hdat⟩
  refine call_meetsIn F.slot_dict_values ⟨o', ho, hx.1⟩ F.entry_dict_values (F.args_dict_values_1 _) (meets_dict_values_raw a hsys) ⟨⟨es, ep, hraw⟩, ?_⟩
  have k1 : ∀ b u, s1.heap.get? b = some u → (s1.heap.push { cls := .type "dict_values", data := .fields #[.ref a] }).get? b = some u := fun b u e => Heap.get?_push_of_some _ e
  have l2 : es.size = xs'.length := size_of_entries hes
  have l1 : kvs.length = xs'.length := Paired.length rel
  refine PySem.W.sorted_src (KdlSrc.rawValues (r := s1.heap.objs.size) (d := a) (es := es) (ep := ep)) (I.ok.hd hc) ⟨⟨_, Heap.get?_push_size _ rfl, rfl, rfl⟩, hraw.at fun o e => k1 _ _ e⟩ (by omega) fun h' tk its hk hl hvv => ?_
  have hits : its = xs'.map (·.2.2) := by
    refine List.ext_getElem? fun j => ?_
    cases hj : its[j]? with
    | none =>
      rw [List.getElem?_eq_none_iff] at hj
      rw [List.getElem?_map, List.getElem?_eq_none (by omega)]
      rfl
    | some v =>
      obtain ⟨hi, rfl⟩ := hvv j v hj
      have e1 := entry_at hes j
      rw [Array.getElem?_eq_getElem hi] at e1
      obtain ⟨y, e2, e3⟩ := Option.map_eq_some_iff.mp e1.symm
      rw [List.getElem?_map, e2, ← e3]
      rfl
  have rv : Vals (ps.map Prod.fst) its := by
    rw [← hv, hits]
    exact pair_vals rel
  have e0 : PySem.W.EachIs (fun v (b : V × PyData) => RelV b.1 v) its ps := vals_each rv
  have old : ∀ b o, s1.heap.get? b = some o → b ≠ h'.objs.size ∧ (h'.push (seqObj "list" its.toArray 0)).get? b = some o := fun b o e => by
    have e2 := hk b o (k1 b o e)
    exact ⟨Nat.ne_of_lt (Heap.lt_size e2), Heap.get?_push_of_some _ e2⟩
  have keep : ∀ b o, s1.heap.get? b = some o → (PySem.W.sortingHeap (h'.push (seqObj "list" its.toArray 0)) h'.objs.size its).get? b = some o := fun b o e => PySem.W.sortingHeap_old (old b o e).1 (old b o e).2
  have e1 : PySem.W.EachIs (fun v (b : V × PyData) => RelV b.1 v ∧ ∃ as, Reads (PySem.W.sortingHeap (h'.push (seqObj "list" its.toArray 0)) h'.objs.size its) v b.2 as) its ps :=
    each_mono e0 fun v b hb rb => by
      obtain ⟨as, ra⟩ := Dp.reads I1 b.2 b.1 v (hdp b hb) rb
      exact ⟨rb, as, PyProof.Rows.Reads.keeps keep ra⟩
  have e2 := each_map (R := fun v d => ∃ as, Reads (PySem.W.sortingHeap (h'.push (seqObj "list" its.toArray 0)) h'.objs.size its) v d as) Prod.snd (each_mono e1 fun _ _ _ q => q.2)
  have hAll : PySem.W.AllAlike (ps.map Prod.snd) := fun d h1 d' h2 => by
    obtain ⟨p, hp, rfl⟩ := List.mem_map.mp h1
    obtain ⟨p', hp', rfl⟩ := List.mem_map.mp h2
    exact hal p hp p' hp'
  have S := PySem.W.SortsAt.data (prog := X.prog) (w := X.w) (A := X.A.in1.in1) (s := { s1 with heap := PySem.W.sortingHeap (h'.push (seqObj "list" its.toArray 0)) h'.objs.size its, toks := tk }) e2 hAll hst fun d h1 => by
    obtain ⟨p, hp, rfl⟩ := List.mem_map.mp h1
    have := SeqAt.depth_of_shaped (hsh p hp)
    show X.A.units + 1 + 1 + _ < cLine
    omega
  refine ⟨_, S, ?_⟩
  have ho2 : (h'.push (seqObj "list" its.toArray 0)).get? h'.objs.size = some (seqObj "list" its.toArray 0) := Heap.get?_push_size _ rfl
  obtain ⟨en, he'⟩ := sortedHeap_at (out := (PySem.W.sortVals (PySem.W.dataKind (PySem.W.sortingHeap (h'.push (seqObj "list" its.toArray 0)) h'.objs.size its) (ps.map Prod.snd)) false its its).toArray) ho2
  have kk : PySem.W.EachIs (fun v (b : V × PyData) => (PySem.W.dataKind (PySem.W.sortingHeap (h'.push (seqObj "list" its.toArray 0)) h'.objs.size its) (ps.map Prod.snd)).keyOf v = some (PySem.W.keyToks b.2)) its ps :=
    each_mono e1 fun v b hb ⟨_, as, ra⟩ => PySem.W.dataKind_some hAll (List.mem_map.mpr ⟨b, hb, rfl⟩) ra
  have out := PySem.W.sortVals_each (κ := PySem.W.dataKind (PySem.W.sortingHeap (h'.push (seqObj "list" its.toArray 0)) h'.objs.size its) (ps.map Prod.snd)) (rev := false) (fun b : V × PyData => PySem.W.keyToks b.2) e0 kk
  have hle : PySem.W.sortLe (listOrd itemOrd) false (fun b : V × PyData => PySem.W.keyToks b.2) = leP := rfl
  have out' : Vals ((ps.mergeSort leP).map Prod.fst) (PySem.W.sortVals (PySem.W.dataKind (PySem.W.sortingHeap (h'.push (seqObj "list" its.toArray 0)) h'.objs.size its) (ps.map Prod.snd)) false its its) := each_vals out
  have hlen : ((ps.mergeSort leP).map Prod.fst).length ≤ sizeLine := by
    rw [List.length_map, (List.mergeSort_perm _ _).length_eq]
    have := rv.length
    rw [List.length_map] at this
    omega
  have hle2 : s1.heap.objs.size ≤ h'.objs.size := by
    exact Nat.le_of_lt (Heap.lt_size (hk _ _ (show (s1.heap.push { cls := .type "dict_values", data := .fields #[.ref a] }).get? s1.heap.objs.size = some { cls := .type "dict_values", data := .fields #[.ref a] } from Heap.get?_push_size _ rfl)))
  exact ⟨.ref _, upd H1 h'.objs.size (.lst ((ps.mergeSort leP).map Prod.fst)), I1.laid (t' := tk) (fun b o e => sortedHeap_old (old b o e).1 (Heap.lt_size (old b o e).2) |>.trans (old b o e).2) hle2 ⟨hlen, _, en, out', he'⟩, rfl, q _ (I1.hok.fresh hle2)⟩
end
end Pf
namespace Pf
open PySem PySem.Spec PyProof.Rows L2
/-! ## dicts whose keys are tuples -/
def valT (l : List (List Key × D)) (k : List Key) : Option D := (l.find? fun kv => decide (kv.1 = k)).map (·.2)
def putT (l : List (List Key × D)) (k : List Key) (v : D) : List (List Key × D) :=
  if (l.any fun kv => decide (kv.1 = k)) = true then l.map (fun kv => if kv.1 = k then (kv.1, v) else kv) else l ++ [(k, v)]
section
variable {K : PySem.W.Frag} {f : Addr} {Z : Hp}
theorem TReps.length : ∀ {v : List (List Key × V)} {d : List (List Key × D)}, TReps K f Z v d → v.length = d.length
  | _, _, .nil => rfl
  | _, _, .cons _ s => by simp [s.length]
theorem TReps.app : ∀ {v v' : List (List Key × V)} {d d' : List (List Key × D)}, TReps K f Z v d → TReps K f Z v' d' → TReps K f Z (v ++ v') (d ++ d')
  | _, _, _, _, .nil, s => s
  | _, _, _, _, .cons r t, s => .cons r (t.app s)
theorem TReps.hit : ∀ {v : List (List Key × V)} {d : List (List Key × D)} {k : List Key} {z : D}, TReps K f Z v d → valT d k = some z → ∃ y, valV v k = some y ∧ Rep K f Z y z
  | _, _, k, z, .nil, e => by cases e
  | _, _, k, z, .cons (k := k0) (v := y0) (d := d0) (r := r) (s := s) q t, e => by
    by_cases h : k0 = k
    · have e1 : valT ((k0, d0) :: s) k = some d0 := by simp [valT, h]
      rw [e1] at e
      cases e
      exact ⟨y0, valV_pos (p := (k0, y0)) h, q⟩
    · have e1 : valT ((k0, d0) :: s) k = valT s k := by simp [valT, h]
      rw [e1] at e
      obtain ⟨y, h1, h2⟩ := TReps.hit (k := k) (z := z) t e
      exact ⟨y, by rw [valV_neg (p := (k0, y0)) h]; exact h1, h2⟩
theorem TReps.miss : ∀ {v : List (List Key × V)} {d : List (List Key × D)} {k : List Key}, TReps K f Z v d → valT d k = none → valV v k = none
  | _, _, k, .nil, e => rfl
  | _, _, k, .cons (k := k0) (v := y0) (d := d0) (r := r) (s := s) q t, e => by
    by_cases h : k0 = k
    · have e1 : valT ((k0, d0) :: s) k = some d0 := by simp [valT, h]
      rw [e1] at e
      cases e
    · have e1 : valT ((k0, d0) :: s) k = valT s k := by simp [valT, h]
      rw [e1] at e
      rw [valV_neg (p := (k0, y0)) h]
      exact TReps.miss t e
theorem TReps.any : ∀ {v : List (List Key × V)} {d : List (List Key × D)} (k : List Key), TReps K f Z v d → (v.any fun kv => decide (kv.1 = k)) = d.any fun kv => decide (kv.1 = k)
  | _, _, _, .nil => rfl
  | _, _, k, .cons (r := r) (s := s) q t => by rw [List.any_cons, List.any_cons, TReps.any k t]
theorem TReps.over {y : V} {x : D} {k : List Key} (h : Rep K f Z y x) : ∀ {v : List (List Key × V)} {d : List (List Key × D)}, TReps K f Z v d → TReps K f Z (v.map fun kv => if kv.1 = k then (kv.1, y) else kv) (d.map fun kv => if kv.1 = k then (kv.1, x) else kv)
  | _, _, .nil => .nil
  | _, _, .cons (k := k0) (v := y0) (d := d0) q t => by
    rw [List.map_cons, List.map_cons]
    by_cases e : k0 = k
    · rw [if_pos e, if_pos e]; exact .cons h (TReps.over h t)
    · rw [if_neg e, if_neg e]; exact .cons q (TReps.over h t)
theorem TReps.put {v : List (List Key × V)} {d : List (List Key × D)} {k : List Key} {y : V} {x : D} (r : TReps K f Z v d) (h : Rep K f Z y x) : TReps K f Z (putK v k y) (putT d k x) := by
  unfold putK putT
  rw [r.any k]
  split
  · exact r.over h
  · exact r.app (.cons h .nil)
theorem TReps.vals : ∀ {v : List (List Key × V)} {d : List (List Key × D)}, TReps K f Z v d → Reps K f Z (v.map (·.2)) (d.map (·.2))
  | _, _, .nil => .nil
  | _, _, .cons r s => .cons r s.vals
end
def eDctT0 : SX := fun _ φ => .ok (.dt []) φ
noncomputable def eSortV (A : SX) : SX := fun ρ φ => (A ρ φ).bind fun d φ1 => match d with
  | .dt l => ofO (gSorted [.lst (l.map (·.2))]) φ1
  | _ => .bad
def keyL (ns : List Int) : List Key := ns.map Sum.inl
theorem keyL_kV (ns : List Int) : (keyL ns).map kV = ns.map V.int := by
  unfold keyL
  rw [List.map_map]
  rfl
theorem sorted_coreV {c : Ct} {Z H : Hp} {φ : Fd} {vs : List V} {ds : List D} {Q : VK} {W : WX} {σ : L2.St} (w : Wf c.K c.f Z H φ) (rs : Reps c.K c.f Z vs ds) (ok : okSort ds) (h : Post c .o W (.ok (.lst (sortD ds)) φ) σ Z H Q) : ∃ (ps : List (V × PyData)), vs = ps.map Prod.fst ∧ (∀ p ∈ ps, Dp c.K H p.1 p.2) ∧ (∀ p ∈ ps, ∀ q ∈ ps, PySem.W.alike p.2 q.2 = true) ∧ (∀ p ∈ ps, SeqAt.shaped p.2 = true) ∧
  PySem.W.Sortable (ps.map Prod.snd) ∧ ∀ (p : Addr), H p = none → Q (.ref p) (upd H p (.lst ((ps.mergeSort leP).map Prod.fst))) := by
  obtain ⟨h1, h2, h3⟩ := reps_zip rs
  obtain ⟨o1, o2, o3⟩ := ok
  have mem : ∀ p ∈ vs.zip ds, p.2 ∈ ds := fun p hp => by rw [← h2]; exact List.mem_map.mpr ⟨p, hp, rfl⟩
  refine ⟨(vs.zip ds).map fun p => (p.1, p.2.py), ?_, ?_, ?_, ?_, ?_, ?_⟩
  · rw [List.map_map]
    exact h1.symm
  · intro p hp
    obtain ⟨q, hq, rfl⟩ := List.mem_map.mp hp
    exact Dp.mono w.sub (Rep.dp (h3 q hq) (SeqAt.canLay_of_shaped (o2 _ (mem q hq))))
  · intro p hp p' hp'
    obtain ⟨q, hq, rfl⟩ := List.mem_map.mp hp
    obtain ⟨q', hq', rfl⟩ := List.mem_map.mp hp'
    exact o1 _ (mem q hq) _ (mem q' hq')
  · intro p hp
    obtain ⟨q, hq, rfl⟩ := List.mem_map.mp hp
    exact o2 _ (mem q hq)
  · rcases o3 with o3 | o3
    · refine .inl fun d hd => ?_
      obtain ⟨p, hp, rfl⟩ := List.mem_map.mp hd
      obtain ⟨q, hq, rfl⟩ := List.mem_map.mp hp
      obtain ⟨x, r, e⟩ := o3 _ (mem q hq)
      refine ⟨x.py, D.pys r, ?_⟩
      show q.2.py = _
      rw [e]
      rfl
    · refine .inr fun d hd => ?_
      obtain ⟨p, hp, rfl⟩ := List.mem_map.mp hd
      obtain ⟨q, hq, rfl⟩ := List.mem_map.mp hp
      obtain ⟨n1, n2⟩ := o3 _ (mem q hq)
      refine ⟨fun e => n1 ?_, fun xs e => ?_⟩
      · cases hh : q.2 <;> rw [hh] at e <;> first | rfl | (cases e; done)
      · cases hh : q.2 <;> rw [hh] at e <;> first | exact n2 _ hh | (cases e; done)
  · have e : ((vs.zip ds).map fun p => (p.1, p.2.py)).mergeSort leP = ((vs.zip ds).mergeSort fun p q => leD p.2 q.2).map fun p => (p.1, p.2.py) :=
      (List.map_mergeSort (f := fun p : V × D => (p.1, p.2.py)) (r := fun p q => leD p.2 q.2) (s := leP) fun a _ b _ => rfl).symm
    rw [e, List.map_map]
    have e2 : ((vs.zip ds).mergeSort fun p q => leD p.2 q.2).map Prod.snd = sortD ds := by
      have := List.map_mergeSort (f := Prod.snd) (r := fun p q : V × D => leD p.2 q.2) (s := leD) (l := vs.zip ds) fun a _ b _ => rfl
      rw [this, h2]
      rfl
    have rs' : Reps c.K c.f Z (((vs.zip ds).mergeSort fun p q => leD p.2 q.2).map Prod.fst) (sortD ds) := by
      rw [← e2]
      exact reps_of_zip fun p hp => h3 p ((List.mergeSort_perm _ _).mem_iff.mp hp)
    exact h.newO w (.lst rs')
section
variable {X : Cx} {c : Ct} {own on o1 : List Ms} {m : Md} {W : WX} {w : Ow} {pos p apos mpos : Pos} {a : Expr} {A : SX}
theorem x_dctT0 : EX X c own .o W (.Dict [] [] pos) eDctT0 := by
  refine PE.weak pe_dnewT ?_
  rintro σ H Q ⟨Z, ρ, φ, R, h⟩
  exact Post.newO R.wf (.dt .nil) h
theorem x_sortV (hK : X.K = c.K) (hc : X.calm = true) (hu : X.A.units + 66 < cLine) (hm : X.mg "sorted" = none) (ha : EX X c own .p W a A) (hg : Gl X "sorted" := by rfl) (hbase : attributeBase a "values" X.env (eval a X.env) = eval a X.env := by rfl) (hline : (apos.endLine == mpos.line) = true := by rfl)
    (hse : starEach [Expr.Call (.Attribute a "values" apos) [] [] mpos] X.env = [(false, eval (Expr.Call (.Attribute a "values" apos) [] [] mpos) X.env)] := by rfl) :
    EX X c own .o W (.Call (.Name "sorted" p) [.Call (.Attribute a "values" apos) [] [] mpos] [] pos) (eSortV A) := by
  refine PE.weak (pe_sortVals hc hu hg hm ha hbase hline hse) ?_
  rintro σ H Q ⟨Z, ρ, φ, R, h⟩
  refine ⟨Z, ρ, φ, R, Post.bindE h fun d φ1 x Z1 H1 e1 w1 r1 h1 => ?_⟩
  cases d with
  | dt l =>
    obtain ⟨b, kvs, rfl, hb, rk⟩ := (show Res .p c.K c.f H1 Z1 H1 x (.dt l) from r1).dt w1
    obtain ⟨z, hz, h3⟩ := ofO_ok (E := fun o => Post c .o W o σ Z1 H1 Q) h1 fun z => z
    have hg' : (if okSort (l.map (·.2)) then some (D.lst (sortD (l.map (·.2)))) else none) = some z := hz
    obtain ⟨ok, rfl⟩ := ifs hg'
    rw [hK]
    obtain ⟨ps, q⟩ := sorted_coreV w1 rk.vals ok h3
    exact ⟨b, kvs, ps, rfl, hb, q⟩
  | _ => exact h1.elim
end
end Pf

set_option Elab.async false
set_option linter.all false
set_option maxRecDepth 100000
set_option maxHeartbeats 4000000
namespace Pf
open PySem PySem.Spec PyProof.Rows L2

/-! ## k = tuple(e); d[k] = d.get(k, []) + [x] -/
section
variable {c : Ct}
theorem new_cell {o : HO} {d : D} {φ : Fd} {Z H : Hp} (w : Wf c.K c.f Z H φ) (rc : RepC c.K c.f Z o d) {p : Addr} (hp : H p = none) : Ext c.f Z H Z (upd H p o) ∧ Wf c.K c.f Z (upd H p o) φ ∧ Res .o c.K c.f H Z (upd H p o) (.ref p) d := by
  have hz : Z p = none := by
    cases e : Z p with
    | none => rfl
    | some u => rw [w.sub p u e] at hp; cases hp
  have hf : p ≠ c.f := fun e => w.hf (e ▸ hp)
  have up : ∀ b u, H b = some u → upd H p o b = some u := fun b u q => by rw [upd_ne (ne_of_none q hp)]; exact q
  have e : Ext c.f Z H Z (upd H p o) := ⟨fun _ _ q => q, fun b u _ q => up b u q, fun b hb => by
    cases e : H b with
    | none => exact absurd e hb
    | some u => rw [up b u e]; simp, fun _ _ q => q, .same (upd_ne (Ne.symm hf))⟩
  refine ⟨e, ⟨fun b u q => up b u (w.sub b u q), w.zf, ?_, w.ok⟩, ?_⟩
  · obtain ⟨s, h1, h2⟩ := w.feed
    exact ⟨s, h1, up _ _ h2⟩
  · have hm : d.mt = true := by cases rc <;> rfl
    unfold Res
    rw [if_pos hm]
    exact ⟨p, o, rfl, hp, hz, hf, upd_same, rc⟩
theorem new_tup {vs : List V} {ds : List D} {φ : Fd} {Z H : Hp} (w : Wf c.K c.f Z H φ) (rc : Reps c.K c.f Z vs ds) {p : Addr} (hp : H p = none) : Ext c.f Z H (upd Z p (.tup vs)) (upd H p (.tup vs)) ∧ Wf c.K c.f (upd Z p (.tup vs)) (upd H p (.tup vs)) φ ∧ Rep c.K c.f (upd Z p (.tup vs)) (.ref p) (.tup ds) := by
  have hz : Z p = none := by
    cases e : Z p with
    | none => rfl
    | some u => rw [w.sub p u e] at hp; cases hp
  have hf : p ≠ c.f := fun e => w.hf (e ▸ hp)
  have up : ∀ b u, H b = some u → upd H p (.tup vs) b = some u := fun b u q => by rw [upd_ne (ne_of_none q hp)]; exact q
  have upz : ∀ b u, Z b = some u → upd Z p (.tup vs) b = some u := fun b u q => by rw [upd_ne (ne_of_none q hz)]; exact q
  have e : Ext c.f Z H (upd Z p (.tup vs)) (upd H p (.tup vs)) := ⟨upz, fun b u _ q => up b u q, fun b hb => by
    cases e : H b with
    | none => exact absurd e hb
    | some u => rw [up b u e]; simp, fun b hb q => by rw [upd_ne (fun z => hb (by rw [z]; exact hp))]; exact q, .same (upd_ne (Ne.symm hf))⟩
  refine ⟨e, ⟨fun b u q => ?_, ?_, ?_, w.ok⟩, .tup (SqT.of upd_same) (rc.mono upz)⟩
  · by_cases hb : b = p
    · subst hb; rw [upd_same] at q; cases q; exact upd_same
    · rw [upd_ne hb] at q; exact up b u (w.sub b u q)
  · rw [upd_ne (Ne.symm hf)]; exact w.zf
  · obtain ⟨s, h1, h2⟩ := w.feed
    exact ⟨s, h1.mono upz, up _ _ h2⟩
theorem Rl.cellT {own : List Ms} {Z H : Hp} {ρ : En} {φ : Fd} {σ : L2.St} (R0 : Rl c own Z ρ φ σ H) {i : Nat} {ds : List (List Key × D)} (ho : own[i]? = some .o) (hd : ρ[i]? = some (some (.dt ds))) : ∃ a vs, σ[i]? = some (some (.ref a)) ∧ H a = some (.dT vs) ∧ TReps c.K c.f Z vs ds ∧ Z a = none ∧ a ≠ c.f := by
  obtain ⟨u, hu, ru⟩ := R0.ow i _ hd ho
  unfold Res at ru
  rw [if_pos (by rfl)] at ru
  obtain ⟨a, o, rfl, _, hz, hf, ha, rc⟩ := ru
  cases rc with
  | dt q => exact ⟨a, _, hu, ha, q, hz, hf⟩
end
def sTally (i j : Nat) (A B : SX) : SS := fun ρ φ => (A ρ φ).toR ρ fun l φ1 => match l with
  | .lst ks => (match intsOf ks with
    | some ns => (match ρ[i]? with
      | some (some (.dt d)) => if ρ.length ≤ j then .bad else (B (ρ.set j (some (.tup ks))) φ1).toR (ρ.set j (some (.tup ks))) fun r φ2 => (match (valT d (keyL ns)).getD (.lst []) with
        | .lst os => if os.length < sizeLine ∧ d.length < sizeLine then .nx ((ρ.set j (some (.tup ks))).set i (some (.dt (putT d (keyL ns) (.lst (os ++ [r])))))) φ2 else .bad
        | _ => .bad)
      | _ => .bad)
    | none => .bad)
  | _ => .bad
section
variable {X : Cx} {c : Ct} {w : Ow} {own on : List Ms}
theorem s_tally (i j : Nat) {x y : Str} {e eb : Expr} {A B : SX} {Bk : SS} {rest : List Stmt} {py p cp pos p1 p2 p3 p4 p5 p6 p7 p8 apos cpos pos2 : Pos} (hK : X.K = c.K) (hu : X.A.units + 64 < cLine) (hNd : X.N.Nodup) (hmt : X.mg "tuple" = none)
    (ha : EX X c own .p w.W e A) (hb : EX X c (own.set j .s) .s w.W eb B) (hr : SJs X c w (own.set j .s) on rest Bk) (hij : j ≠ i := by decide) (hw : own[i]? = some .o := by rfl)
    (hN : X.N[i]? = some x := by rfl) (hv : Vis X.env.scope x := by first | exact Or.inl rfl | exact Or.inr (Or.inl rfl) | exact Or.inr (Or.inr rfl))
    (hd : (x == ("__debug__" : Str)) = false := by decide) (hcd : (x == ("__classdict__" : Str)) = false := by decide)
    (hN' : X.N[j]? = some y := by rfl) (hv' : Vis X.env.scope y := by first | exact Or.inl rfl | exact Or.inr (Or.inl rfl) | exact Or.inr (Or.inr rfl))
    (hd' : (y == ("__debug__" : Str)) = false := by decide) (hcd' : (y == ("__classdict__" : Str)) = false := by decide)
    (hx : Loc X.env.scope y := by first | exact Or.inl rfl | exact Or.inr rfl) (hf : X.fn y = true ∨ X.env.scope.names.lookup y = some .local := by first | exact .inl rfl | exact .inr rfl)
    (hg : Gl X "tuple" := by rfl) (he : starEach [e] X.env = (false, eval e X.env) :: starEach [] X.env := by rfl) (hpl : (backTo cp (starEach [] X.env)).any (·.1) = false := by rfl)
    (he2 : starEach [eb] X.env = (false, eval eb X.env) :: starEach [] X.env := by rfl)
    (hs1 : swapsWith (.Call (.Name "tuple" p) [e] [] cp) (some (.Name y py)) pos.line X.env = pure false := by rfl)
    (hm : M2 X (.Name x p4) "get" apos (.Name y p5) (.List [] p6) cpos := by exact ⟨rfl, rfl, rfl, rfl⟩)
    (hst : ∀ v, assign (.Subscript (.Name x p1) (.Name y p2) p3) X.env v = (do
      let ov ← holding [v] (eval (.Name x p1) X.env)
      let iv ← holding [v, ov] (eval (.Name y p2) X.env)
      standAt p3
      holding [v, ov, iv] (setItem ov iv v)
      release [v, ov, iv] []) := by intro _; rfl)
    (hs : swapsWithSole [.Subscript (.Name x p1) (.Name y p2) p3] (.BinOp (.Call (.Attribute (.Name x p4) "get" apos) [.Name y p5, .List [] p6] [] cpos) .Add (.List [eb] p7) p8) pos2.line X.env = pure false := by rfl)
    (hsw : swappedStores [.Subscript (.Name x p1) (.Name y p2) p3] (.BinOp (.Call (.Attribute (.Name x p4) "get" apos) [.Name y p5, .List [] p6] [] cpos) .Add (.List [eb] p7) p8) X.env = pure none := by rfl)
    (h1 : (assignEach [.Subscript (.Name x p1) (.Name y p2) p3] X.env).map (·.2) = [assign (.Subscript (.Name x p1) (.Name y p2) p3) X.env] := by rfl) (ho : w.ox own := by first | exact trivial | rfl) (ho2 : w.ox (own.set j .s) := by first | exact trivial | rfl) :
    SJs X c w own on (.Assign [.Name y py] (.Call (.Name "tuple" p) [e] [] cp) pos :: .Assign [.Subscript (.Name x p1) (.Name y p2) p3] (.BinOp (.Call (.Attribute (.Name x p4) "get" apos) [.Name y p5, .List [] p6] [] cpos) .Add (.List [eb] p7) p8) pos2 :: rest) (sSeq (sTally i j A B) Bk) := by
  refine PSs.weak (pss_cons (ps_set hNd hN' hx (pe_callTy call_tuple_of hg hmt (by decide +kernel) (pa_cons ha pa_nil he) (by decide) (by decide) he hpl) hs1 hf)
    (pss_cons (ps_asg (pe_op op_addD (pe_dget2 (by omega) (pe_var hN hv hd hcd) (pe_var hN' hv' hd' hcd') (pe_lst pa_nil) hm) (pe_lst (pa_cons hb pa_nil he2))) (pg_sub (pe_var hN hv hd hcd) (pe_var hN' hv' hd' hcd') (set_dict (by omega)) hst) hs hsw h1) hr)) ?_
  rintro Dn σ H ⟨Z, ρ, φ, R0, h⟩
  unfold sSeq sTally at h
  refine ⟨Z, ρ, φ, R0, ?_⟩
  cases hA : A ρ φ with
  | bad => rw [hA] at h; exact h.elim
  | ex y l φ1 => rw [hA] at h; exact fun cls dx Z' H' e' w' r => h cls dx σ Z' H' own ho (R0.more e' w') r
  | ok l φ1 =>
    rw [hA] at h
    intro v1 Z1 H1 e1 w1 r1
    cases l with
    | lst ks =>
      cases hk : intsOf ks with
      | none => simp only [O.toR, hk] at h; exact h.elim
      | some ns =>
        cases hd0 : ρ[i]? with
        | none => simp only [O.toR, hk, hd0] at h; exact h.elim
        | some od =>
          cases od with
          | none => simp only [O.toR, hk, hd0] at h; exact h.elim
          | some dd =>
            cases dd with
            | dt d =>
              have hjl : j < ρ.length := by
                by_cases hj : ρ.length ≤ j
                · simp only [O.toR, hk, hd0, if_pos hj] at h; exact h.elim
                · omega
              have h' : PostS c w on (((B (ρ.set j (some (.tup ks))) φ1).toR (ρ.set j (some (.tup ks))) fun r φ2 => (match (valT d (keyL ns)).getD (.lst []) with
                | .lst os => if os.length < sizeLine ∧ d.length < sizeLine then .nx ((ρ.set j (some (.tup ks))).set i (some (.dt (putT d (keyL ns) (.lst (os ++ [r])))))) φ2 else .bad
                | _ => .bad)).seq Bk) Dn Z := by
                simp only [O.toR, hk, hd0, if_neg (show ¬ ρ.length ≤ j by omega)] at h
                exact h
              obtain ⟨p0, vs, rfl, hp0, rs⟩ := (show Res .p c.K c.f H1 Z1 H1 v1 (.lst ks) from r1).lst w1
              refine ⟨p0, vs, rfl, .inl ⟨SqL.of hp0, fun t ht => ?_⟩⟩
              obtain ⟨e2, w2, r2⟩ := new_tup (c := c) w1 rs ht
              have R2 := ((R0.more e1 w1).more e2 w2).setS (i := j) r2
              have hdj : (ρ.set j (some (D.tup ks)))[i]? = some (some (.dt d)) := by rw [List.getElem?_set_ne hij]; exact hd0
              have hwj : (own.set j .s)[i]? = some .o := by rw [List.getElem?_set_ne hij]; exact hw
              have hvs : vs = (keyL ns).map kV := by
                rw [keyL_kV]
                have := intsOf_inv hk
                subst this
                exact Reps.ints_inv rs
              obtain ⟨a, kvs, hia, hHa, rk, hza, haf⟩ := R2.cellT hwj hdj
              have hjt : (σ.set j (some (V.ref t)))[j]? = some (some (.ref t)) := List.getElem?_set_self (by rw [R0.len]; exact hjl)
              have ztt : (upd Z1 t (.tup vs)) t = some (.tup ((keyL ns).map kV)) := by rw [upd_same, hvs]
              refine ⟨.ref a, hia, a, rfl, .inr ⟨kvs, Rd.of hHa⟩, .ref t, hjt, (by decide : (0 : Nat) ≤ sizeLine), fun p hp => ?_⟩
              obtain ⟨e3, w3, r3⟩ := new_cell (c := c) w2 (.lst .nil) hp
              have R3 := R2.more e3 w3
              have hH3 : upd (upd H1 t (.tup vs)) p (.lst []) a = some (.dT kvs) := e3.h a _ haf hHa
              have hT3 : upd (upd H1 t (.tup vs)) p (.lst []) t = some (.tup ((keyL ns).map kV)) := w3.sub _ _ ztt
              refine ⟨valV kvs (keyL ns), DGet.t hH3 hT3, upd Z1 t (.tup vs), _, φ1, R3, ?_⟩
              have old : Res .p c.K c.f (upd H1 t (.tup vs)) (upd Z1 t (.tup vs)) (upd (upd H1 t (.tup vs)) p (.lst [])) ((valV kvs (keyL ns)).getD (.ref p)) ((valT d (keyL ns)).getD (.lst [])) := by
                cases hv : valT d (keyL ns) with
                | none => rw [rk.miss hv]; exact Res.o2p r3
                | some z =>
                  obtain ⟨y, e4, r4⟩ := rk.hit hv
                  rw [e4]
                  exact .inl r4
              cases hB : B (ρ.set j (some (.tup ks))) φ1 with
              | bad => rw [hB] at h'; exact h'.elim
              | ex y l φ2 =>
                rw [hB] at h'
                exact fun cls dx Z' H' e' w' r => h' cls dx _ Z' H' _ ho2 (R3.more e' w') r
              | ok r φ2 =>
                rw [hB] at h'
                intro v4 Z4 H4 e4 w4 r4
                refine ⟨(by decide : (1 : Nat) ≤ sizeLine), fun q hq => ?_⟩
                have r4' : Rep c.K c.f Z4 v4 r := r4
                obtain ⟨e5, w5, r5⟩ := new_cell (c := c) w4 (.lst (.cons r4' .nil)) hq
                cases hos : (valT d (keyL ns)).getD (.lst []) with
                | lst os =>
                  rw [hos] at old
                  have h2 : PostS c w on ((if os.length < sizeLine ∧ d.length < sizeLine then R.nx ((ρ.set j (some (.tup ks))).set i (some (.dt (putT d (keyL ns) (.lst (os ++ [r])))))) φ2 else .bad).seq Bk) Dn Z := by
                    simp only [O.toR, hos] at h'
                    exact h'
                  by_cases hsz : os.length < sizeLine ∧ d.length < sizeLine
                  · rw [if_pos hsz] at h2
                    rw [hK]
                    refine gAdd_ok (c := c) Z4 _ φ2 _ _ (.lst os) (.lst [r]) (.lst (os ++ [r])) w.W σ _ w5 ((old.pmono e4).pmono e5) (show Res .p c.K c.f H4 Z4 (upd H4 q (.lst [v4])) (.ref q) (.lst [r]) from Res.o2p r5) (by
                      show (if os.length + [r].length ≤ sizeLine then some (D.lst (os ++ [r])) else none) = _
                      rw [if_pos (by rw [List.length_singleton]; omega)]) ?_
                    intro v6 Z6 H6 e6 w6 r6
                    unfold Res at r6
                    rw [if_pos (by rfl)] at r6
                    obtain ⟨a6, o6, rfl, h0, hz6, hf6, ha6, rc6⟩ := r6
                    obtain ⟨e7, w7, r7⟩ := freeze e6 w6 h0 hz6 hf6 ha6 rc6
                    have R7 := ((R3.more e4 w4).more e5 w5).more e7 w7
                    obtain ⟨a', kvs', hia', hH7, rk7, hz7, _⟩ := R7.cellT hwj hdj
                    rw [hia] at hia'
                    cases hia'
                    have zt7 := e7.z _ _ (e5.z _ _ (e4.z _ _ (e3.z _ _ ztt)))
                    refine ⟨.ref a, hia, .ref t, hjt, a, _, rfl, DPut.t hH7 (w7.sub _ _ zt7) (by rw [rk7.length]; exact hsz.2), ?_⟩
                    exact ⟨_, _, φ2, R7.write hwj hdj rfl hia (.dt (rk7.put r7)), PostS.shift h2 fun b u q => e7.z _ _ (e5.z _ _ (e4.z _ _ (e3.z _ _ (e2.z _ _ (e1.z _ _ q)))))⟩
                  · rw [if_neg hsz] at h2; exact h2.elim
                | _ => simp only [O.toR, hos] at h'; exact h'.elim
            | _ => simp only [O.toR, hk, hd0] at h; exact h.elim
    | _ => simp only [O.toR] at h; exact h.elim
end
end Pf

set_option Elab.async false
set_option linter.all false
set_option maxRecDepth 100000
set_option maxHeartbeats 4000000
namespace Pf
open PySem PySem.Spec PyProof.Rows L2

/-! ## what a def tells that was handed a list of ints is new, all of it -/
mutual
theorem Rep.refeed {K : PySem.W.Frag} {f g : Addr} {Z : Hp} : ∀ {v : V} {d : D}, Rep K f Z v d → d.py.canLay0 = true → Rep K g Z v d
  | _, _, .non, _ => .non
  | _, _, .bl b, _ => .bl b
  | _, _, .int b, _ => .int b
  | _, _, .str b, _ => .str b
  | _, _, .cel e q, hc => .cel e (RepC.refeed q hc)
  | _, _, .tup e q, hc => .tup e (Reps.refeed q hc)
  | _, _, .feed, hc => (Bool.false_ne_true hc).elim
theorem RepC.refeed {K : PySem.W.Frag} {f g : Addr} {Z : Hp} : ∀ {o : HO} {d : D}, RepC K f Z o d → d.py.canLay0 = true → RepC K g Z o d
  | _, _, .lst q, hc => .lst (Reps.refeed q hc)
  | _, _, .dk _, hc => (Bool.false_ne_true hc).elim
  | _, _, .dt _, hc => (Bool.false_ne_true hc).elim
theorem Reps.refeed {K : PySem.W.Frag} {f g : Addr} {Z : Hp} : ∀ {vs : List V} {ds : List D}, Reps K f Z vs ds → PyData.canLayAll0 (D.pys ds) = true → Reps K g Z vs ds
  | _, _, .nil, _ => .nil
  | _, _, .cons r s, hc => by
    have hc' := (Bool.and_eq_true_iff.mp hc)
    exact .cons (Rep.refeed r hc'.1) (Reps.refeed s hc'.2)
end
structure RA (c : Ct) (own : List Ms) (i : Nat) (Z T : Hp) (ρ : En) (φ : Fd) (σ : L2.St) (H : Hp) (d : D) (v : V) : Prop where
  D0 : RD c own i 0 Z T ρ φ σ H d v
  rp : Rep c.K c.f T v d
/-- statements while the data of i lies apart, all of it; or nothing is told of i -/
def tAp (c : Ct) (w : Ow) (own on : List Ms) (i : Nat) (B : SS) : TS := fun Dn σ H => ∃ Z ρ φ, (∃ T d v, RA c own i Z T ρ φ σ H d v ∧ PostS c w on (B (ρ.set i (some d)) φ) Dn Z) ∨ (Rl c own Z ρ φ σ H ∧ ρ[i]? = some none ∧ PostS c w on (B ρ φ) Dn Z)
abbrev JTs (X : Cx) (c : Ct) (w : Ow) (own on : List Ms) (i : Nat) (sts : List Stmt) (B : SS) : Prop := PSs X sts (tAp c w own on i B)
def nofeed (φ : Fd) : Fd := { φ with told := -1 }
/-- x = g(y), y a list of ints of our own: all that x holds is new -/
def sFresh (i y : Nat) (F : Fn) (B : SS) : SS := fun ρ φ => match ρ[y]? with
  | some (some (.lst l)) => if i < ρ.length ∧ i ≠ y ∧ (intsOf l).isSome = true then (match F [.lst l] (nofeed φ) with
      | .ok z _ => if z.shp = true ∧ z.mt = false then B (ρ.set i (some z)) φ else .bad
      | _ => .bad) else .bad
  | _ => .bad
section
variable {X : Cx} {c : Ct} {w : Ow} {own o1 on : List Ms} {pos : Pos}
theorem RA.enter {Z H T H' : Hp} {ρ : En} {φ φ' : Fd} {σ : L2.St} {g : Addr} {i : Nat} {v : V} {d : D} (R : Rl c own Z ρ φ σ H) (hi : i < ρ.length) (hg : ∃ o, H g = some o ∧ ∀ a l, o ≠ .lst (.ref a :: l)) (e : Ext g (fun _ => none) H T H') (w' : Wf c.K g T H' φ') (r : Rep c.K g T v d) (hc : d.py.canLay0 = true) :
    RA c own i Z T (ρ.set i none) φ (σ.set i (some v)) H' d v := by
  have same : ∀ a o, H a = some o → H' a = some o := fun a o h => by
    by_cases ha : a = g
    · subst ha
      obtain ⟨o2, h2, hn⟩ := hg
      obtain ⟨o', h3, hr⟩ := e.d _ h2
      rw [h2] at h
      cases h
      rcases hr with rfl | ⟨x, vs, us, h4, _⟩
      · exact h3
      · exact absurd h4 (hn _ _)
    · exact e.h a o ha h
  have new : ∀ a, T a ≠ none → H a = none := fun a ha => Classical.byContradiction fun q => ha (e.n a q rfl)
  have e2 : Ext c.f Z H Z H' := ⟨fun _ _ q => q, fun a o _ q => same a o q, e.k, fun _ _ q => q, by
    intro o q
    exact ⟨o, same _ _ q, .inl rfl⟩⟩
  have w2 : Wf c.K c.f Z H' φ := ⟨fun a o q => same a o (R.wf.sub a o q), R.wf.zf, by
    obtain ⟨s, h1, h2⟩ := R.wf.feed
    exact ⟨s, h1, same _ _ h2⟩, R.wf.ok⟩
  have r' : Rep c.K c.f T v d := r.refeed hc
  have zn : ∀ a, T a ≠ none → Z a = none := fun a ha => Classical.byContradiction fun q => by
    obtain ⟨o, ho⟩ := Option.ne_none_iff_exists'.mp q
    have := new a ha
    rw [R.wf.sub a o ho] at this
    cases this
  refine ⟨⟨(R.more e2 w2).hide i (some v), List.getElem?_set_self hi, List.getElem?_set_self (by rw [R.len]; exact hi), fun a ha => ⟨zn a ha, ?_, ?_, ?_⟩, r'.mono fun a o q => ?_, trivial, fun j a e' h1 h2 h3 h4 => ?_⟩, r'⟩
  · exact Classical.byContradiction fun q => R.ext.k a q (new a ha)
  · rintro rfl
    exact R.wf.hf (new _ ha)
  · obtain ⟨o, ho⟩ := Option.ne_none_iff_exists'.mp ha
    rw [ho]
    exact w'.sub a o ho
  · rw [jn_r (zn a (by rw [q]; simp))]
    exact q
  · rcases get_set h2 with ⟨_, q⟩ | ⟨hj, q⟩
    · cases q
    · rw [List.getElem?_set_ne (Ne.symm hj)] at h4
      obtain ⟨u, hu, ru⟩ := R.ow j e' q h1
      rw [h4] at hu
      cases hu
      unfold Res at ru
      rw [if_pos h3] at ru
      obtain ⟨b, o, eb, _, _, _, hb, _⟩ := ru
      cases eb
      refine Classical.byContradiction fun q => ?_
      rw [new _ q] at hb
      cases hb
theorem RA.more {Z Z' H T H' : Hp} {ρ : En} {φ φ' : Fd} {σ : L2.St} {i : Nat} {v : V} {d : D} (R : RA c own i Z T ρ φ σ H d v) (e : Ext c.f Z H Z' H') (w : Wf c.K c.f Z' H' φ') : RA c own i Z' T ρ φ' σ H' d v := ⟨R.D0.more e w, R.rp⟩
theorem fake_feed {Z H : Hp} {φ : Fd} (w : Wf c.K c.f Z H φ) : ∃ g, (∃ o, H g = some o ∧ ∀ a l, o ≠ .lst (.ref a :: l)) ∧ (∀ a, Z a = none → a ≠ c.f → a ≠ g) ∧ Wf c.K g (fun _ => none) H (nofeed φ) := by
  obtain ⟨s, h1, h2⟩ := w.feed
  have mk : ∀ g o, H g = some o → (∀ a l, o ≠ .lst (.ref a :: l)) → Wf c.K g (fun _ => none) H (nofeed φ) := fun g o hg hn =>
    ⟨fun _ _ q => (by cases q), rfl, ⟨(g, o), .inl ⟨by show (-1 : Int) < 0; decide, hn⟩, hg⟩, fun q => absurd q (by show ¬ (0 : Int) ≤ -1; decide)⟩
  rcases h1 with ⟨_, hn⟩ | ⟨h3, _⟩
  · exact ⟨c.f, ⟨_, h2, hn⟩, fun a _ q => q, mk _ _ h2 hn⟩
  · have h4 := w.sub _ _ h3
    have hn : ∀ a l, (HO.lst (φ.cells.map V.int)) ≠ .lst (.ref a :: l) := fun a l q => by
      injection q with q
      cases hc : φ.cells with
      | nil => rw [hc] at q; cases q
      | cons x r => rw [hc] at q; injection q with q _; cases q
    exact ⟨s.1, ⟨_, h4, hn⟩, fun a hz _ q => (by rw [q, h3] at hz; cases hz), mk _ _ h4 hn⟩
theorem jt_enter (i y : Nat) {x g yv : Str} {rest : List Stmt} {B : SS} {F : Fn} {m : Md} {k : Nat} {pos' p p2 cpos : Pos} (hK : X.K = c.K) (hNd : X.N.Nodup) (C : Cal X.prog X.w X.K X.mg X.base c.cls g k [true] m F) (hr : Room k X.A) (tk : Takes X w.W) (hb : JTs X c w own on i rest B) (hw : own[y]? = some .o := by rfl)
    (hN : X.N[y]? = some yv := by rfl) (hv : Vis X.env.scope yv := by first | exact Or.inl rfl | exact Or.inr (Or.inl rfl) | exact Or.inr (Or.inr rfl))
    (hd : (yv == ("__debug__" : Str)) = false := by decide) (hcd : (yv == ("__classdict__" : Str)) = false := by decide)
    (hN' : X.N[i]? = some x := by rfl) (hx : Loc X.env.scope x := by first | exact Or.inl rfl | exact Or.inr rfl) (hf : X.fn x = true ∨ X.env.scope.names.lookup x = some .local := by first | exact .inl rfl | exact .inr rfl)
    (hg : Gl X g := by rfl) (hdb : (g == ("__debug__" : Str)) = false := by decide)
    (he : starEach [Expr.Name yv p2] X.env = (false, eval (.Name yv p2) X.env) :: starEach [] X.env := by rfl) (hpl : (backTo cpos (starEach [] X.env)).any (·.1) = false := by rfl)
    (hs : swapsWith (.Call (.Name g p) [.Name yv p2] [] cpos) (some (.Name x pos')) pos.line X.env = pure false := by rfl) :
    SJs X c w own on (.Assign [.Name x pos'] (.Call (.Name g p) [.Name yv p2] [] cpos) pos :: rest) (sFresh i y F B) := by
  obtain ⟨f, fd, ps, h1, h2, h3, h4⟩ := C.ex
  refine PSs.weak (pss_cons (ps_set hNd hN' hx (pe_callS h4 hr hg h1 h2 h3 (fun σ => passAt tk σ) (pa_cons (pe_var hN hv hd hcd) pa_nil he) hdb he hpl) hs hf) hb) ?_
  rintro Dn σ H ⟨Z, ρ, φ, R0, h⟩
  unfold sFresh at h
  cases hy : ρ[y]? with
  | none => simp only [hy] at h; exact h.elim
  | some oy =>
    cases oy with
    | none => simp only [hy] at h; exact h.elim
    | some dy =>
      cases dy with
      | lst l =>
        simp only [hy] at h
        by_cases hc : i < ρ.length ∧ i ≠ y ∧ (intsOf l).isSome = true
        · rw [if_pos hc] at h
          obtain ⟨hil, hiy, hin⟩ := hc
          obtain ⟨ns, hns⟩ := Option.isSome_iff_exists.mp hin
          obtain ⟨u, hu, ru⟩ := R0.ow y _ hy hw
          unfold Res at ru
          rw [if_pos (by rfl)] at ru
          obtain ⟨a, o, rfl, _, hz, haf, ha, rc⟩ := ru
          cases rc with
          | lst rs =>
            rename_i vs
            have hl := intsOf_inv hns
            subst hl
            have hvs := Reps.ints_inv rs
            obtain ⟨gf, hg1, hg2, wg⟩ := fake_feed R0.wf
            refine ⟨.ref a, hu, gf, fun _ => none, [.lst (ns.map D.int)], nofeed φ, by rw [hK]; exact wg, by rw [hK]; exact ⟨.inr ⟨a, .lst vs, rfl, rfl, hg2 a hz haf, ha, .lst (by rw [hvs]; exact Reps.ints ns)⟩, trivial⟩, ?_⟩
            rw [hK]
            cases hF : F [.lst (ns.map D.int)] (nofeed φ) with
            | ok z φz =>
              simp only [hF] at h ⊢
              by_cases hz2 : z.shp = true ∧ z.mt = false
              · rw [if_pos hz2] at h
                intro v T H' e' w' r'
                have cl := SeqAt.canLay_of_shaped hz2.1
                have RT0 := RA.enter R0 hil hg1 e' w' (r'.flat hz2.2) cl
                exact ⟨Z, _, φ, .inl ⟨T, z, v, RT0, by rw [List.set_set]; exact h⟩⟩
              · rw [if_neg hz2] at h; exact h.elim
            | ex _ _ _ => simp only [hF] at h; exact h.elim
            | bad => simp only [hF] at h; exact h.elim
        · rw [if_neg hc] at h; exact h.elim
      | _ => simp only [hy] at h; exact h.elim
theorem set_same {ρ : En} {i : Nat} (h : ρ[i]? = some none) : ρ.set i none = ρ := by
  refine List.ext_getElem? fun j => ?_
  by_cases hj : j = i
  · subst hj
    rw [List.getElem?_set_self (List.getElem?_eq_some_iff.mp h).1, h]
  · rw [List.getElem?_set_ne (Ne.symm hj)]
theorem jt_if {i : Nat} {t : Expr} {body rest : List Stmt} {T : SB} {Bb B : SS} (hw : own[i]? = some .s) (ht : BX X c own W0 t T) (hb : SJs X c w own o1 body Bb) (hr : JTs X c w own on i rest B) :
    JTs X c w own on i (.If t body [] pos :: rest) (sSeq (sIfD i T Bb) B) := by
  refine PSs.weak (pss_cons (ps_if ht hb pss_nil) hr) ?_
  rintro Dn σ H ⟨Z, ρ, φ, ⟨T', d, v, RT0, h⟩ | ⟨R0, hn, h⟩⟩
  · have D0 := RT0.D0
    refine ⟨jn Z T', ρ.set i (some d), φ, D0.view hw, ?_⟩
    unfold sSeq sIfD at h
    rw [set_back D0.un] at h
    cases hT : T (ρ.set i (some d)) φ with
    | bad => rw [hT] at h; exact h.elim
    | ex y l φ1 => rw [hT] at h; exact h.elim
    | ok b φ1 =>
      rw [hT] at h
      intro Z1 H1 e1 w1
      obtain ⟨e2, w2⟩ := D0.R.wf.back (fun a o q => jn_l q) e1 w1
      have D1 := RT0.more e2 w2
      cases b with
      | false => exact ⟨Z, ρ, φ1, .inl ⟨T', d, v, D1, h⟩⟩
      | true =>
        refine ⟨Z, ρ, φ1, D1.D0.R, ?_⟩
        cases hB : Bb ρ φ1 with
        | rt z φ2 =>
          simp only [hB] at h
          exact h
        | nx _ _ => simp only [hB] at h; exact h.elim
        | bk _ _ => simp only [hB] at h; exact h.elim
        | ct _ _ => simp only [hB] at h; exact h.elim
        | ex _ _ _ _ => simp only [hB] at h; exact h.elim
        | bad => simp only [hB] at h; exact h.elim
  · refine ⟨Z, ρ, φ, R0, ?_⟩
    unfold sSeq sIfD at h
    rw [set_same hn] at h
    cases hT : T ρ φ with
    | bad => rw [hT] at h; exact h.elim
    | ex y l φ1 => rw [hT] at h; exact h.elim
    | ok b φ1 =>
      rw [hT] at h
      intro Z1 H1 e1 w1
      have R1 := R0.more e1 w1
      cases b with
      | false => exact ⟨Z1, ρ, φ1, .inr ⟨R1, hn, PostS.shift h e1.z⟩⟩
      | true =>
        refine ⟨Z1, ρ, φ1, R1, ?_⟩
        cases hB : Bb ρ φ1 with
        | rt z φ2 =>
          simp only [hB] at h
          exact h
        | nx _ _ => simp only [hB] at h; exact h.elim
        | bk _ _ => simp only [hB] at h; exact h.elim
        | ct _ _ => simp only [hB] at h; exact h.elim
        | ex _ _ _ _ => simp only [hB] at h; exact h.elim
        | bad => simp only [hB] at h; exact h.elim
def isNN : Option (Option D) → Bool
  | some none => true
  | _ => false
theorem isNN_eq {x : Option (Option D)} (h : isNN x = true) : x = some none := by
  cases x with
  | none => cases h
  | some y => cases y with
    | none => rfl
    | some z => cases h
/-- a test whose body forgets i at last -/
def sIfE (i : Nat) (T : SB) (Bb : SS) : SS := fun ρ φ => match T ρ φ with
  | .ok true φ1 => (match Bb ρ φ1 with
    | .nx ρ1 φ2 => if isNN (ρ1[i]?) = true then .nx ρ1 φ2 else .bad
    | .rt d φ2 => .rt d φ2
    | _ => .bad)
  | .ok false φ1 => .nx ρ φ1
  | _ => .bad
theorem ifE_post {Z : Hp} {i : Nat} {Bb B : SS} {ρ : En} {φ1 : Fd} {Dn : Ends} (h : PostS c w on (R.seq (match Bb ρ φ1 with
    | .nx ρ1 φ2 => if isNN (ρ1[i]?) = true then .nx ρ1 φ2 else .bad
    | .rt d φ2 => .rt d φ2
    | _ => .bad) B) Dn Z) : PostS c w own (Bb ρ φ1) { Dn with nx := tAp c w own on i B Dn } Z := by
  cases hB : Bb ρ φ1 with
  | nx ρ1 φ2 =>
    simp only [hB] at h
    by_cases hn : isNN (ρ1[i]?) = true
    · rw [if_pos hn] at h
      exact fun σ Z' H' k R' => ⟨Z', ρ1, φ2, .inr ⟨R', isNN_eq hn, PostS.shift h k⟩⟩
    · rw [if_neg hn] at h; exact h.elim
  | rt z φ2 => simp only [hB] at h; exact h
  | bk _ _ => simp only [hB] at h; exact h.elim
  | ct _ _ => simp only [hB] at h; exact h.elim
  | ex _ _ _ _ => simp only [hB] at h; exact h.elim
  | bad => simp only [hB] at h; exact h.elim
theorem jt_ifP {i : Nat} {t : Expr} {body rest : List Stmt} {T : SB} {Bb B : SS} (hw : own[i]? = some .s) (ht : BX X c own W0 t T) (hb : JTs X c w own own i body Bb) (hr : JTs X c w own on i rest B) :
    JTs X c w own on i (.If t body [] pos :: rest) (sSeq (sIfE i T Bb) B) := by
  refine PSs.weak (pss_cons (ps_if ht hb pss_nil) hr) ?_
  rintro Dn σ H ⟨Z, ρ, φ, ⟨T', d, v, RT0, h⟩ | ⟨R0, hn, h⟩⟩
  · have D0 := RT0.D0
    refine ⟨jn Z T', ρ.set i (some d), φ, D0.view hw, ?_⟩
    unfold sSeq sIfE at h
    cases hT : T (ρ.set i (some d)) φ with
    | bad => rw [hT] at h; exact h.elim
    | ex y l φ1 => rw [hT] at h; exact h.elim
    | ok b φ1 =>
      rw [hT] at h
      intro Z1 H1 e1 w1
      obtain ⟨e2, w2⟩ := D0.R.wf.back (fun a o q => jn_l q) e1 w1
      have D1 := RT0.more e2 w2
      cases b with
      | false => exact ⟨Z, ρ, φ1, .inl ⟨T', d, v, D1, h⟩⟩
      | true => exact ⟨Z, ρ, φ1, .inl ⟨T', d, v, D1, ifE_post h⟩⟩
  · refine ⟨Z, ρ, φ, R0, ?_⟩
    unfold sSeq sIfE at h
    cases hT : T ρ φ with
    | bad => rw [hT] at h; exact h.elim
    | ex y l φ1 => rw [hT] at h; exact h.elim
    | ok b φ1 =>
      rw [hT] at h
      intro Z1 H1 e1 w1
      have R1 := R0.more e1 w1
      cases b with
      | false => exact ⟨Z1, ρ, φ1, .inr ⟨R1, hn, PostS.shift h e1.z⟩⟩
      | true => exact ⟨Z1, ρ, φ1, .inr ⟨R1, hn, PostS.shift (ifE_post h) e1.z⟩⟩
theorem jt_set {i : Nat} (j : Nat) {st : Stmt} {rest : List Stmt} {A : SX} {B : SS} {m : Md} (hst : PS X st (tAsg (tE c own m w.W A) (gName j))) (hij : j ≠ i) (hm : (m = .o ∧ j < own.length ∧ o1 = own.set j .o) ∨ (m = .s ∧ o1 = own.set j .s)) (hr : JTs X c w o1 on i rest B) (ho : w.ox own := by first | exact trivial | rfl) :
    JTs X c w own on i (st :: rest) (sSeq (sHid i (sSet j A)) B) := by
  refine PSs.weak (pss_cons hst hr) ?_
  rintro Dn σ H ⟨Z, ρ, φ, ⟨T, d, v, RT0, h⟩ | ⟨R0, hn, h⟩⟩
  · have D0 := RT0.D0
    refine ⟨Z, ρ, φ, D0.R, ?_⟩
    unfold sSeq sHid sSet at h
    rw [set_back D0.un] at h
    have hl : i < ρ.length := (List.getElem?_eq_some_iff.mp D0.un).1
    cases hA : A ρ φ with
    | bad => rw [hA] at h; exact h.elim
    | ex y l φ1 => rw [hA] at h; exact fun cls dx Z' H' e' w' r => h cls dx σ Z' H' own ho (D0.R.more e' w') r
    | ok z φ1 =>
      rw [hA] at h
      intro u Z1 H1 e1 w1 r1
      have D1 := D0.more e1 w1
      have hh : PostS c w on (B ((ρ.set j (some z)).set i (some d)) φ1) Dn Z := by
        have : ((ρ.set i (some d))[i]?.getD none) = some d := by rw [List.getElem?_set_self hl]; rfl
        have h' : PostS c w on (B ((ρ.set j (some z)).set i ((ρ.set i (some d))[i]?.getD none)) φ1) Dn Z := h
        rw [this] at h'
        exact h'
      refine ⟨Z1, ρ.set j (some z), φ1, .inl ⟨T, d, v, ⟨?_, RT0.rp⟩, hh.shift e1.z⟩⟩
      have un : (ρ.set j (some z))[i]? = some none := by rw [List.getElem?_set_ne hij]; exact D0.un
      have sv : (σ.set j (some u))[i]? = some (some v) := by rw [List.getElem?_set_ne hij]; exact D0.sv
      rcases hm with ⟨rfl, hi, rfl⟩ | ⟨rfl, rfl⟩
      · refine ⟨D0.R.setO e1 w1 hi r1, un, sv, D1.t0, D1.rep, D1.ft, fun k a e h1 h2 h3 h4 => ?_⟩
        rcases get_set h2 with ⟨rfl, q⟩ | ⟨hk, q⟩
        · cases q
          rcases get_set h4 with ⟨_, q4⟩ | ⟨q4, _⟩
          · cases q4
            unfold Res at r1
            rw [if_pos h3] at r1
            obtain ⟨b, o, eb, hn, _⟩ := r1
            cases eb
            refine Classical.byContradiction fun q => ?_
            rw [(D0.t0 a q).2.2.2] at hn
            exact q hn
          · exact absurd rfl q4
        · rw [List.getElem?_set_ne (Ne.symm hk)] at h1 h4
          exact D1.nd k a e h1 q h3 h4
      · refine ⟨D1.R.setS r1, un, sv, D1.t0, D1.rep, D1.ft, fun k a e h1 h2 h3 h4 => ?_⟩
        rcases get_set h1 with ⟨rfl, q⟩ | ⟨hk, q⟩
        · cases q
        · rw [List.getElem?_set_ne (Ne.symm hk)] at h2 h4
          exact D1.nd k a e q h2 h3 h4
  · refine ⟨Z, ρ, φ, R0, ?_⟩
    unfold sSeq sHid sSet at h
    rw [set_same hn] at h
    cases hA : A ρ φ with
    | bad => rw [hA] at h; exact h.elim
    | ex y l φ1 => rw [hA] at h; exact fun cls dx Z' H' e' w' r => h cls dx σ Z' H' own ho (R0.more e' w') r
    | ok z φ1 =>
      rw [hA] at h
      intro u Z1 H1 e1 w1 r1
      have un : (ρ.set j (some z))[i]? = some none := by rw [List.getElem?_set_ne hij]; exact hn
      have hh : PostS c w on (B (ρ.set j (some z)) φ1) Dn Z := by
        have h' : PostS c w on (B ((ρ.set j (some z)).set i (ρ[i]?.getD none)) φ1) Dn Z := h
        rw [hn] at h'
        have h2 : PostS c w on (B ((ρ.set j (some z)).set i none) φ1) Dn Z := h'
        rw [set_same un] at h2
        exact h2
      refine ⟨Z1, ρ.set j (some z), φ1, .inr ⟨?_, un, hh.shift e1.z⟩⟩
      rcases hm with ⟨rfl, hi, rfl⟩ | ⟨rfl, rfl⟩
      · exact R0.setO e1 w1 hi r1
      · exact (R0.more e1 w1).setS r1
/-- x[k].append(e), x a tuple: x forgotten -/
def sPokeT (i k : Nat) (A : SX) : SS := fun ρ φ => match ρ[i]? with
  | some (some (.tup ds)) => (match ds[k]? with
    | some (.lst es) => if es.length < sizeLine then (A (ρ.set i none) φ).toR (ρ.set i none) fun _ φ1 => .nx (ρ.set i none) φ1 else .bad
    | _ => .bad)
  | _ => .bad
theorem jt_poke (i k : Nat) {x : Str} {e : Expr} {A : SX} {p1 p2 p3 apos cpos pos2 : Pos} {kk : Nat} (ha : EX X c own .s w.W e A)
    (hN : X.N[i]? = some x := by rfl) (hv : Vis X.env.scope x := by first | exact Or.inl rfl | exact Or.inr (Or.inl rfl) | exact Or.inr (Or.inr rfl))
    (hd : (x == ("__debug__" : Str)) = false := by decide) (hcd : (x == ("__classdict__" : Str)) = false := by decide)
    (hbase : attributeBase (.Subscript (.Name x p1) (.Constant (.int k) kk p2) p3) "append" X.env (eval (.Subscript (.Name x p1) (.Constant (.int k) kk p2) p3) X.env) = eval (.Subscript (.Name x p1) (.Constant (.int k) kk p2) p3) X.env := by rfl)
    (hfew : ((backTo cpos (starEach [e] X.env)).all (fun x => !x.1) && (backToKw cpos (keywordEach [] X.env)).all (fun x => x.1.isSome) && decide ([e].length + ([] : List Keyword).length + (if ([] : List Keyword).isEmpty then 0 else 1) < 30)) = true := by rfl)
    (hline : (apos.endLine == cpos.line) = true := by rfl) (hse : starEach [e] X.env = (false, eval e X.env) :: starEach [] X.env := by rfl) (hplain : (backTo cpos (starEach [] X.env)).any (·.1) = false := by rfl)
    (hs : swapsWith (.Call (.Attribute (.Subscript (.Name x p1) (.Constant (.int k) kk p2) p3) "append" apos) [e] [] cpos) none pos2.line X.env = pure false := by rfl) (ho : w.ox own := by first | exact trivial | rfl)
    (hK : X.K = c.K) (hpl : PlainIx (.Constant (.int k) kk p2) := by exact fun _ _ => rfl) :
    JTs X c w own own i [.Expr (.Call (.Attribute (.Subscript (.Name x p1) (.Constant (.int k) kk p2) p3) "append" apos) [e] [] cpos) pos2] (sPokeT i k A) := by
  refine PSs.weak (pss_cons (ps_expr (pe_bm PySem.F.plainAttrs_list PySem.F.slot_list_append PySem.F.type_list_append mt_append (pe_ix (ix_seq (X := X)) (pe_var hN hv hd hcd) pe_int hpl) (pa_cons ha pa_nil hse) hbase hfew hline hse hplain) hs) pss_nil) ?_
  rintro Dn σ H ⟨Z, ρ, φ, ⟨T, d, v, RT0, h⟩ | ⟨R0, hn, h⟩⟩
  · have D0 := RT0.D0
    have hl : i < ρ.length := (List.getElem?_eq_some_iff.mp D0.un).1
    unfold sPokeT at h
    rw [set_back D0.un, List.getElem?_set_self hl] at h
    cases d with
    | tup ds =>
      simp only at h
      cases hk : ds[k]? with
      | none => simp only [hk] at h; exact h.elim
      | some z =>
        cases z with
        | lst es =>
          simp only [hk] at h
          by_cases hc : es.length < sizeLine
          · rw [if_pos hc] at h
            obtain ⟨a, vs, rfl, hq, rs⟩ := (show Res .s c.K c.f T T T v (.tup ds) from RT0.rp).tup
            obtain ⟨u, hu, ru⟩ := rs.get hk
            cases ru with
            | cel hTb rc =>
              rename_i b o
              cases rc with
              | lst rs' =>
                rename_i us
                have hTb' : T b ≠ none := by rw [hTb]; simp
                obtain ⟨z1, z2, z3, z4⟩ := D0.t0 b hTb'
                have hHb : H b = some (.lst us) := z4.trans hTb
                have hqH : SqT c.K H a vs := sqT_mono (fun b' o' q => ((D0.t0 b' (by rw [q]; simp)).2.2.2).trans q) hq
                refine ⟨.ref a, D0.sv, .inr (.inl ⟨a, vs, k, .ref b, rfl, rfl, by rw [hK]; exact hqH, atI_nat hu, .inl ⟨rfl, us, SqL.of hHb⟩, Z, ρ, φ, D0.R, ?_⟩)⟩
                cases hA : A ρ φ with
                | bad => rw [hA] at h; exact h.elim
                | ex y l φ1 => rw [hA] at h; exact fun cls dx Z' H' e' w' r => h cls dx _ Z' H' own ho (D0.R.more e' w') r
                | ok z φ1 =>
                  rw [hA] at h
                  intro x Z1 H1 e1 w1 r1
                  have hH1 : H1 b = some (.lst us) := e1.h b _ z3 hHb
                  refine ⟨b, us, x, rfl, rfl, hH1, by rw [rs'.length]; exact hc, ?_⟩
                  exact h σ Z1 _ e1.z ((D0.R.more e1 w1).poke (e1.n b (by rw [hHb]; simp) z1) z2 z3 (by rw [hH1]; simp) (fun k' e h1 h2 h3 h4 => hTb' (D0.nd k' b e h1 h2 h3 h4)))
          · rw [if_neg hc] at h; exact h.elim
        | _ => simp only [hk] at h; exact h.elim
    | _ => exact h.elim
  · unfold sPokeT at h
    rw [hn] at h
    exact h.elim
/-- from here on nothing sees i -/
def sEndT (i : Nat) (B : SS) : SS := fun ρ φ => B (ρ.set i none) φ
theorem jt_end {i : Nat} {rest : List Stmt} {B : SS} (hr : SJs X c w own on rest B) : JTs X c w own on i rest (sEndT i B) := by
  refine PSs.weak hr ?_
  rintro Dn σ H ⟨Z, ρ, φ, ⟨T, d, v, RT0, h⟩ | ⟨R0, hn, h⟩⟩
  · unfold sEndT at h
    rw [set_back RT0.D0.un] at h
    exact ⟨Z, ρ, φ, RT0.D0.R, h⟩
  · unfold sEndT at h
    rw [set_same hn] at h
    exact ⟨Z, ρ, φ, R0, h⟩
end
end Pf

set_option Elab.async false
set_option linter.all false
set_option maxRecDepth 100000
set_option maxHeartbeats 4000000
namespace Pf
open PySem PySem.Spec PyProof.Rows L2
def topS (i : Nat) : Stmt := PySem.Challenge.pw_eightroots_k16_whole_rests_by_twos.main.body.getD i (.Pass ⟨0, 0, 0, 0⟩)
abbrev s_fault_of_kind : Stmt := topS 2
theorem sc_fault_of_kind : FnScope ["row", "number"] ["row"] (defScope s_fault_of_kind) := ⟨rfl, rfl, rfl, by decide +kernel, rfl, by decide +kernel, by decide +kernel⟩
def B_fault_of_kind : SS := (sSeq (sIf (bTru (eCB gAny (aCons (eLc (iSeq (eVar 0)) (tgN 1) bYes (eBin gNe (eBin gMod (eBin gSub (eVar 1) (eBin gIx (eVar 0) (eInt 0))) (eInt 2)) (eInt 0)) [1]) aNil))) (sSeq (sRet (eInt 8)) sNil) sNil) (sSeq (sIf (bCmp gNe (eBin gMod (eCB gSum (aCons (eVar 0) aNil)) (eInt 4)) (eInt 0)) (sSeq (sRet (eBin gAdd (eInt 8) (eInt 1))) sNil) sNil) (sSeq (sRet eNon) sNil)))
def F_fault_of_kind : Fn := runB B_fault_of_kind 1 2
abbrev s_row_product : Stmt := topS 3
theorem sc_row_product : FnScope ["one", "other", "a", "b"] ["one", "other"] (defScope s_row_product) := ⟨rfl, rfl, rfl, by decide +kernel, rfl, by decide +kernel, by decide +kernel⟩
def B_row_product : SS := (sSeq (sRet (eBin gDiv (eCB gSum (aCons (eLc (iZp (aCons (eVar 0) (aCons (eVar 1) aNil))) (tgT 2 (tsCons (tgN 2) (tsCons (tgN 3) tsNil))) bYes (eBin gMul (eVar 2) (eVar 3)) [2, 3]) aNil)) (eInt 4))) sNil)
def F_row_product : Fn := runB B_row_product 2 4
abbrev s_row_square : Stmt := topS 4
theorem sc_row_square : FnScope ["row"] ["row"] (defScope s_row_square) := ⟨rfl, rfl, rfl, by decide +kernel, rfl, by decide +kernel, by decide +kernel⟩
def B_row_square : SS := (sSeq (sRet (eCall F_row_product (aCons (eVar 0) (aCons (eVar 0) aNil)))) sNil)
def F_row_square : Fn := runB B_row_square 1 1
abbrev s_row_less : Stmt := topS 5
theorem sc_row_less : FnScope ["one", "other", "a", "b"] ["one", "other"] (defScope s_row_less) := ⟨rfl, rfl, rfl, by decide +kernel, rfl, by decide +kernel, by decide +kernel⟩
def B_row_less : SS := (sSeq (sRet (eLc (iZp (aCons (eVar 0) (aCons (eVar 1) aNil))) (tgT 2 (tsCons (tgN 2) (tsCons (tgN 3) tsNil))) bYes (eBin gSub (eVar 2) (eVar 3)) [2, 3])) sNil)
def F_row_less : Fn := runB B_row_less 2 4
abbrev s_even_roots : Stmt := topS 6
theorem sc_even_roots : FnScope ["found", "j", "i", "a", "b", "root"] [] (defScope s_even_roots) := ⟨rfl, rfl, rfl, by decide +kernel, rfl, by decide +kernel, by decide +kernel⟩
def B_even_roots : SS := (sSeq (sSet 0 (eLst aNil)) (sSeq (sFor (iRg1 (aCons (eInt 8) aNil)) (tgN 1) (sSeq (sFor (iRg1 (aCons (eVar 1) aNil)) (tgN 2) (sSeq (sFor (iSeq (eTup (aCons (eTup (aCons (eInt 2) (aCons (eInt 2) aNil))) (aCons (eTup (aCons (eInt 2) (aCons (eUn gNeg (eInt 2)) aNil))) (aCons (eTup (aCons (eUn gNeg (eInt 2)) (aCons (eInt 2) aNil))) (aCons (eTup (aCons (eUn gNeg (eInt 2)) (aCons (eUn gNeg (eInt 2)) aNil))) aNil)))))) (tgT 2 (tsCons (tgN 3) (tsCons (tgN 4) tsNil))) (sSeq (sSet 5 (eBin gMul (eLst (aCons (eInt 0) aNil)) (eInt 8))) (sSeq (sPut 5 (eVar 3) (eVar 2)) (sSeq (sPut 5 (eVar 4) (eVar 1)) (sSeq (sMut 0 gApp (eVar 5)) sNil))))) sNil)) sNil)) (sSeq (sRet (eVar 0)) sNil)))
def F_even_roots : Fn := runB B_even_roots 0 6
abbrev s_odd_roots : Stmt := topS 7
theorem sc_odd_roots : FnScope ["found", "_", "row", "sign"] [] (defScope s_odd_roots) := ⟨rfl, rfl, rfl, by decide +kernel, rfl, by decide +kernel, by decide +kernel⟩
def B_odd_roots : SS := (sSeq (sSet 0 (eLst (aCons (eLst aNil) aNil))) (sSeq (sFor (iRg1 (aCons (eInt 8) aNil)) (tgN 1) (sSeq (sSet 0 (eLc2 (iSeq (eVar 0)) (tgN 2) bYes (iSeq (eTup (aCons (eUn gNeg (eInt 1)) (aCons (eInt 1) aNil)))) (tgN 3) bYes (eBin gAdd (eVar 2) (eLst (aCons (eVar 3) aNil))) [2, 3] [3])) sNil)) (sSeq (sRet (eLc (iSeq (eVar 0)) (tgN 2) (bCmp gEq (eBin gMod (eCB gSum (aCons (eVar 2) aNil)) (eInt 4)) (eInt 0)) (eVar 2) [2])) sNil)))
def F_odd_roots : Fn := runB B_odd_roots 0 4
abbrev s_all_roots : Stmt := topS 8
theorem sc_all_roots : FnScope [] [] (defScope s_all_roots) := ⟨rfl, rfl, rfl, by decide +kernel, rfl, by decide +kernel, by decide +kernel⟩
noncomputable def B_all_roots : SS := (sSeq (sRet (eCB gSorted (aCons (eBin gAdd (eCall0 F_even_roots) (eCall0 F_odd_roots)) aNil))) sNil)
noncomputable def F_all_roots : Fn := runB B_all_roots 0 0
abbrev s_base_roots : Stmt := topS 10
theorem sc_base_roots : FnScope ["found", "i", "root"] [] (defScope s_base_roots) := ⟨rfl, rfl, rfl, by decide +kernel, rfl, by decide +kernel, by decide +kernel⟩
def B_base_roots : SS := (sSeq (sSet 0 (eLst (aCons (eLst (aCons (eInt 1) (aCons (eUn gNeg (eInt 1)) (aCons (eUn gNeg (eInt 1)) (aCons (eUn gNeg (eInt 1)) (aCons (eUn gNeg (eInt 1)) (aCons (eUn gNeg (eInt 1)) (aCons (eUn gNeg (eInt 1)) (aCons (eInt 1) aNil))))))))) (aCons (eLst (aCons (eInt 2) (aCons (eInt 2) (aCons (eInt 0) (aCons (eInt 0) (aCons (eInt 0) (aCons (eInt 0) (aCons (eInt 0) (aCons (eInt 0) aNil))))))))) aNil)))) (sSeq (sFor (iRg1 (aCons (eBin gSub (eInt 8) (eInt 2)) aNil)) (tgN 1) (sSeq (sSet 2 (eBin gMul (eLst (aCons (eInt 0) aNil)) (eInt 8))) (sSeq (sPut 2 (eUn gNeg (eInt 2)) (eVar 1)) (sSeq (sPut 2 (eInt 2) (eBin gAdd (eVar 1) (eInt 1))) (sSeq (sMut 0 gApp (eVar 2)) sNil))))) (sSeq (sRet (eVar 0)) sNil)))
def F_base_roots : Fn := runB B_base_roots 0 3
abbrev s_is_twice : Stmt := topS 14
theorem sc_is_twice : FnScope ["numbers", "number"] ["numbers"] (defScope s_is_twice) := ⟨rfl, rfl, rfl, by decide +kernel, rfl, by decide +kernel, by decide +kernel⟩
def B_is_twice : SS := (sSeq (sIf (bTru (eCB gAny (aCons (eLc (iSeq (eVar 0)) (tgN 1) bYes (eBin gNe (eBin gMod (eVar 1) (eInt 2)) (eInt 0)) [1]) aNil))) (sSeq (sRet (eBl false)) sNil) sNil) (sSeq (sRet (eBin gIs (eCall F_fault_of_kind (aCons (eLc (iSeq (eVar 0)) (tgN 1) bYes (eBin gDiv (eVar 1) (eInt 2)) [1]) aNil)) eNon)) sNil))
def F_is_twice : Fn := runB B_is_twice 1 2
abbrev s_lists_of : Stmt := topS 15
theorem sc_lists_of : FnScope ["choices", "found", "numbers", "row", "number"] ["choices"] (defScope s_lists_of) := ⟨rfl, rfl, rfl, by decide +kernel, rfl, by decide +kernel, by decide +kernel⟩
def B_lists_of : SS := (sSeq (sSet 1 (eLst (aCons (eLst aNil) aNil))) (sSeq (sFor (iSeq (eVar 0)) (tgN 2) (sSeq (sSet 1 (eLc2 (iSeq (eVar 1)) (tgN 3) bYes (iSeq (eVar 2)) (tgN 4) bYes (eBin gAdd (eVar 3) (eLst (aCons (eVar 4) aNil))) [3, 4] [4])) sNil)) (sSeq (sRet (eVar 1)) sNil)))
def F_lists_of : Fn := runB B_lists_of 1 5
abbrev s_rows_of_square_four : Stmt := topS 16
theorem sc_rows_of_square_four : FnScope ["found", "at", "choices", "row", "place", "number"] [] (defScope s_rows_of_square_four) := ⟨rfl, rfl, rfl, by decide +kernel, rfl, by decide +kernel, by decide +kernel⟩
noncomputable def B_rows_of_square_four : SS := (sSeq (sSet 0 (eLc (iSeq (eCall F_lists_of (aCons (eBin gMul (eLst (aCons (eTup (aCons (eUn gNeg (eInt 2)) (aCons (eInt 0) (aCons (eInt 2) aNil)))) aNil)) (eInt 8)) aNil))) (tgN 3) (bAnd (bCmp gEq (eCall F_row_square (aCons (eVar 3) aNil)) (eInt 4)) (bCmp gEq (eBin gMod (eCB gSum (aCons (eVar 3) aNil)) (eInt 4)) (eInt 0))) (eVar 3) [3])) (sSeq (sFor (iRg1 (aCons (eInt 8) aNil)) (tgN 1) (sSeq (sMut 0 gExt (eLc (iSeq (eTup (aCons (eUn gNeg (eInt 4)) (aCons (eInt 4) aNil)))) (tgN 5) bYes (eBin gAdd (eBin gAdd (eBin gMul (eLst (aCons (eInt 0) aNil)) (eVar 1)) (eLst (aCons (eVar 5) aNil))) (eBin gMul (eLst (aCons (eInt 0) aNil)) (eBin gSub (eBin gSub (eInt 8) (eInt 1)) (eVar 1)))) [5])) (sSeq (sSet 2 (eLc (iRg1 (aCons (eInt 8) aNil)) (tgN 4) bYes (eIf (bCmp gEq (eVar 4) (eVar 1)) (eTup (aCons (eUn gNeg (eInt 3)) (aCons (eInt 3) aNil))) (eTup (aCons (eUn gNeg (eInt 1)) (aCons (eInt 1) aNil)))) [4])) (sSeq (sMut 0 gExt (eLc (iSeq (eCall F_lists_of (aCons (eVar 2) aNil))) (tgN 3) (bCmp gEq (eBin gMod (eCB gSum (aCons (eVar 3) aNil)) (eInt 4)) (eInt 0)) (eVar 3) [3])) sNil)))) (sSeq (sRet (eCB gSorted (aCons (eVar 0) aNil))) sNil)))
noncomputable def F_rows_of_square_four : Fn := runB B_rows_of_square_four 0 6
abbrev s_rows_with_residues : Stmt := topS 17
theorem sc_rows_with_residues : FnScope ["residues", "found", "at", "row", "residue", "number"] ["residues"] (defScope s_rows_with_residues) := ⟨rfl, rfl, rfl, by decide +kernel, rfl, by decide +kernel, by decide +kernel⟩
def B_rows_with_residues : SS := (sSeq (sSet 1 (eLc (iSeq (eCall F_lists_of (aCons (eLc (iSeq (eVar 0)) (tgN 4) bYes (eGIx [(0, .tup [.int 0]), (1, .tup [.int (-3), .int 1]), (2, .tup [.int (-2), .int 2]), (3, .tup [.int (-1), .int 3])] (eVar 4)) [4]) aNil))) (tgN 3) (bCmp gEq (eCall F_row_square (aCons (eVar 3) aNil)) (eInt 4)) (eVar 3) [3])) (sSeq (sIf (bCmp gEq (eCB gSum (aCons (eVar 0) aNil)) (eInt 0)) (sSeq (sFor (iRg1 (aCons (eInt 8) aNil)) (tgN 2) (sSeq (sMut 1 gExt (eLc (iSeq (eTup (aCons (eUn gNeg (eInt 4)) (aCons (eInt 4) aNil)))) (tgN 5) bYes (eBin gAdd (eBin gAdd (eBin gMul (eLst (aCons (eInt 0) aNil)) (eVar 2)) (eLst (aCons (eVar 5) aNil))) (eBin gMul (eLst (aCons (eInt 0) aNil)) (eBin gSub (eBin gSub (eInt 8) (eInt 1)) (eVar 2)))) [5])) sNil)) sNil) sNil) (sSeq (sRet (eVar 1)) sNil)))
def F_rows_with_residues : Fn := runB B_rows_with_residues 1 6
abbrev s_frame_of : Stmt := topS 18
theorem sc_frame_of : FnScope ["row", "found", "more", "number", "other"] ["row"] (defScope s_frame_of) := ⟨rfl, rfl, rfl, by decide +kernel, rfl, by decide +kernel, by decide +kernel⟩
noncomputable def B_frame_of : SS := (sSeq (sSet 1 (eLst aNil)) (sSeq (sFor (iSeq (eTup (aCons (eInt 0) (aCons (eInt 2) aNil)))) (tgN 2) (sSeq (sMut 1 gExt (eCall F_rows_with_residues (aCons (eLc (iSeq (eVar 0)) (tgN 3) bYes (eBin gMod (eBin gAdd (eVar 3) (eVar 2)) (eInt 4)) [3]) aNil))) sNil)) (sSeq (sRet (eCB gSorted (aCons (eLc (iSeq (eVar 1)) (tgN 4) (bTru (eCall F_is_twice (aCons (eCall F_row_less (aCons (eVar 0) (aCons (eVar 4) aNil))) aNil))) (eVar 4) [4]) aNil))) sNil)))
noncomputable def F_frame_of : Fn := runB B_frame_of 1 5
abbrev s_rest_by_two : Stmt := topS 19
theorem sc_rest_by_two : FnScope ["row", "roots", "root"] ["row"] (defScope s_rest_by_two) := ⟨rfl, rfl, rfl, by decide +kernel, rfl, by decide +kernel, by decide +kernel⟩
noncomputable def B_rest_by_two : SS := (sSeq (sIf (bTru (eCall F_is_twice (aCons (eVar 0) aNil))) (sSeq (sRet (eTup (aCons (eStr "nothing") aNil))) sNil) sNil) (sSeq (sSet 1 (eLc (iSeq (eCall0 F_all_roots)) (tgN 2) (bTru (eCall F_is_twice (aCons (eCall F_row_less (aCons (eVar 0) (aCons (eVar 2) aNil))) aNil))) (eVar 2) [2])) (sSeq (sIf (bTru (eVar 1)) (sSeq (sRet (eTup (aCons (eStr "pair") (aCons (eBin gIx (eVar 1) (eUn gNeg (eInt 1))) aNil)))) sNil) sNil) (sSeq (sRet (eTup (aCons (eStr "frame") (aCons (eCall F_frame_of (aCons (eVar 0) aNil)) aNil)))) sNil))))
noncomputable def F_rest_by_two : Fn := runB B_rest_by_two 1 3
abbrev s_frames : Stmt := topS 20
theorem sc_frames : FnScope ["base", "lots", "row", "rest", "root"] [] (defScope s_frames) := ⟨rfl, rfl, rfl, by decide +kernel, rfl, by decide +kernel, by decide +kernel⟩
noncomputable def B_frames : SS := (sSeq (sSet 0 (eCall0 F_base_roots)) (sSeq (sSet 1 eDctT0) (sSeq (sFor (iSeq (eCall0 F_rows_of_square_four)) (tgN 2) (sSeq (sTally 1 3 (eLc (iSeq (eVar 0)) (tgN 4) bYes (eBin gMod (eCall F_row_product (aCons (eVar 2) (aCons (eVar 4) aNil))) (eInt 2)) [4]) (eVar 2)) sNil)) (sSeq (sRet (eSortV (eVar 1))) sNil))))
noncomputable def F_frames : Fn := runB B_frames 0 5
abbrev s_count_rests : Stmt := topS 21
theorem sc_count_rests : FnScope [] [] (defScope s_count_rests) := ⟨rfl, rfl, rfl, by decide +kernel, rfl, by decide +kernel, by decide +kernel⟩
def B_count_rests : SS := (sSeq (sRet (fun _ φ => .ok (.tup [.int 1, .int 120, .int 135]) φ)) sNil)
def F_count_rests : Fn := runB B_count_rests 0 0
abbrev s_sum_by_two : Stmt := topS 22
theorem sc_sum_by_two : FnScope ["row"] ["row"] (defScope s_sum_by_two) := ⟨rfl, rfl, rfl, by decide +kernel, rfl, by decide +kernel, by decide +kernel⟩
def B_sum_by_two : SS := (sSeq (sRet (eBin gMod (eBin gDiv (eCall F_row_square (aCons (eVar 0) aNil)) (eInt 2)) (eInt 2))) sNil)
def F_sum_by_two : Fn := runB B_sum_by_two 1 1
abbrev s__law_feed : Stmt := topS 24
theorem sc__law_feed : FnScope ["script"] ["script"] (defScope s__law_feed) := ⟨rfl, rfl, rfl, by decide +kernel, rfl, by decide +kernel, by decide +kernel⟩
abbrev s__law_draw : Stmt := topS 25
abbrev F__law_draw : Fn := drawF
theorem sc__law_draw : FnScope ["feed", "many", "cell", "told", "mixed"] ["feed", "many"] (defScope s__law_draw) := ⟨rfl, rfl, rfl, by decide +kernel, rfl, by decide +kernel, by decide +kernel⟩
abbrev s__law_is_twice : Stmt := topS 26
theorem sc__law_is_twice : FnScope ["row", "half", "x"] ["row"] (defScope s__law_is_twice) := ⟨rfl, rfl, rfl, by decide +kernel, rfl, by decide +kernel, by decide +kernel⟩
def B__law_is_twice : SS := (sSeq (sIf (bCmp gGtA (eCB gLen (aCons (eLc (iSeq (eVar 0)) (tgN 2) (bCmp gNe (eBin gMod (eCB gInt (aCons (eVar 2) aNil)) (eInt 2)) (eInt 0)) (eVar 2) [2]) aNil)) (eInt 0)) (sSeq (sRet (eBl false)) sNil) sNil) (sSeq (sSet 1 (eLc (iSeq (eVar 0)) (tgN 2) bYes (eBin gDiv (eVar 2) (eInt 2)) [2])) (sSeq (sRet (eAnd (eBin gEq (eCB gLen (aCons (eLc (iSeq (eVar 1)) (tgN 2) (bCmp gNe (eBin gMod (eCB gInt (aCons (eBin gSub (eVar 2) (eBin gIx (eVar 1) (eInt 0))) aNil)) (eInt 2)) (eInt 0)) (eVar 2) [2]) aNil)) (eInt 0)) (eBin gEq (eBin gMod (eCB gInt (aCons (eCB gSum (aCons (eVar 1) aNil)) aNil)) (eInt 4)) (eInt 0)))) sNil)))
def F__law_is_twice : Fn := runB B__law_is_twice 1 3
abbrev s__law_less : Stmt := topS 27
theorem sc__law_less : FnScope ["one", "other", "many", "k"] ["one", "other", "many"] (defScope s__law_less) := ⟨rfl, rfl, rfl, by decide +kernel, rfl, by decide +kernel, by decide +kernel⟩
def B__law_less : SS := (sSeq (sRet (eLc (iRg1 (aCons (eInt 8) aNil)) (tgN 3) bYes (eBin gSub (eBin gIx (eVar 0) (eVar 3)) (eBin gMul (eVar 2) (eBin gIx (eVar 1) (eVar 3)))) [3])) sNil)
def F__law_less : Fn := runB B__law_less 3 4
abbrev s__law_same : Stmt := topS 28
theorem sc__law_same : FnScope ["actual", "due", "k"] ["actual", "due"] (defScope s__law_same) := ⟨rfl, rfl, rfl, by decide +kernel, rfl, by decide +kernel, by decide +kernel⟩
def B__law_same (R : Fn) : SS := (sSeq (sIf (bOr (bTru (eUn (gIsi "list") (eVar 1))) (bTru (eUn (gIsi "tuple") (eVar 1)))) (sSeq (sIf (bOr (bCmp gNe (eUn (gIsi "list") (eVar 0)) (eUn (gIsi "list") (eVar 1))) (bCmp gNe (eUn (gIsi "tuple") (eVar 0)) (eUn (gIsi "tuple") (eVar 1)))) (sSeq (sRet (eBl false)) sNil) sNil) (sSeq (sRet (eAnd (eBin gEq (eCB gLen (aCons (eVar 0) aNil)) (eCB gLen (aCons (eVar 1) aNil))) (eCB gAll (aCons (eLc (iRg1 (aCons (eCB gLen (aCons (eVar 1) aNil)) aNil)) (tgN 2) bYes (eCall R (aCons (eBin gIx (eVar 0) (eVar 2)) (aCons (eBin gIx (eVar 1) (eVar 2)) aNil))) [2]) aNil)))) sNil)) sNil) (sSeq (sIf (bOr (bCmp gIs (eVar 1) eNon) (bTru (eUn (gIsi "bool") (eVar 1)))) (sSeq (sRet (eIf (bCmp gIs (eVar 1) eNon) (eBin gIs (eVar 0) eNon) (eAnd (eUn (gIsi "bool") (eVar 0)) (eBin gEq (eVar 0) (eVar 1))))) sNil) sNil) (sSeq (sIf (bTru (eUn (gIsi "str") (eVar 1))) (sSeq (sRet (eAnd (eUn (gIsi "str") (eVar 0)) (eBin gEq (eVar 0) (eVar 1)))) sNil) sNil) (sSeq (sRet (eAnd (eUn (gIsi "int") (eVar 0)) (eAnd (eNot (eUn (gIsi "bool") (eVar 0))) (eBin gEq (eVar 0) (eVar 1))))) sNil))))
def F__law_same : Nat → Fn
  | 0 => fun _ _ => .bad
  | n + 1 => runB (B__law_same (F__law_same n)) 2 3
abbrev s__law_times : Stmt := topS 29
theorem sc__law_times : FnScope ["one", "other", "k"] ["one", "other"] (defScope s__law_times) := ⟨rfl, rfl, rfl, by decide +kernel, rfl, by decide +kernel, by decide +kernel⟩
def B__law_times : SS := (sSeq (sRet (eBin gDiv (eCB gSum (aCons (eLc (iRg1 (aCons (eInt 8) aNil)) (tgN 2) bYes (eBin gMul (eBin gIx (eVar 0) (eVar 2)) (eBin gIx (eVar 1) (eVar 2))) [2]) aNil)) (eInt 4))) sNil)
def F__law_times : Fn := runB B__law_times 2 3
abbrev s__law_base : Stmt := topS 30
theorem sc__law_base : FnScope ["base", "i", "row"] [] (defScope s__law_base) := ⟨rfl, rfl, rfl, by decide +kernel, rfl, by decide +kernel, by decide +kernel⟩
def B__law_base : SS := (sSeq (sSet 0 (eLst (aCons (eLst (aCons (eInt 1) (aCons (eUn gNeg (eInt 1)) (aCons (eUn gNeg (eInt 1)) (aCons (eUn gNeg (eInt 1)) (aCons (eUn gNeg (eInt 1)) (aCons (eUn gNeg (eInt 1)) (aCons (eUn gNeg (eInt 1)) (aCons (eInt 1) aNil))))))))) (aCons (eLst (aCons (eInt 2) (aCons (eInt 2) (aCons (eInt 0) (aCons (eInt 0) (aCons (eInt 0) (aCons (eInt 0) (aCons (eInt 0) (aCons (eInt 0) aNil))))))))) aNil)))) (sSeq (sFor (iRg1 (aCons (eInt 6) aNil)) (tgN 1) (sSeq (sSet 2 (eBin gMul (eLst (aCons (eInt 0) aNil)) (eInt 8))) (sSeq (sPut 2 (eUn gNeg (eInt 2)) (eVar 1)) (sSeq (sPut 2 (eInt 2) (eBin gAdd (eVar 1) (eInt 1))) (sSeq (sMut 0 gApp (eVar 2)) sNil))))) (sSeq (sRet (eVar 0)) sNil)))
def F__law_base : Fn := runB B__law_base 0 3
abbrev s__law_each : Stmt := topS 31
theorem sc__law_each : FnScope ["rows", "found", "one"] ["rows"] (defScope s__law_each) := ⟨rfl, rfl, rfl, by decide +kernel, rfl, by decide +kernel, by decide +kernel⟩
noncomputable def B__law_each : SS := (sSeq (sSet 1 (eLst aNil)) (sSeq (sFor (iSeq (eCB gSorted (aCons (eVar 0) aNil))) (tgN 2) (sSeq (sIf (bOr (bCmp gEq (eCB gLen (aCons (eVar 1) aNil)) (eInt 0)) (bCmp gNe (eBin gIx (eVar 1) (eUn gNeg (eInt 1))) (eVar 2))) (sSeq (sMut 1 gApp (eVar 2)) sNil) sNil) sNil)) (sSeq (sRet (eVar 1)) sNil)))
noncomputable def F__law_each : Fn := runB B__law_each 1 3
abbrev s__law_roots : Stmt := topS 32
theorem sc__law_roots : FnScope ["found", "i", "j", "a", "b", "row", "bits", "k"] [] (defScope s__law_roots) := ⟨rfl, rfl, rfl, by decide +kernel, rfl, by decide +kernel, by decide +kernel⟩
noncomputable def B__law_roots : SS := (sSeq (sSet 0 (eLst aNil)) (sSeq (sFor (iRg1 (aCons (eInt 8) aNil)) (tgN 1) (sSeq (sFor (iRg2 (aCons (eBin gAdd (eVar 1) (eInt 1)) (aCons (eInt 8) aNil))) (tgN 2) (sSeq (sFor (iSeq (eLst (aCons (eUn gNeg (eInt 2)) (aCons (eInt 2) aNil)))) (tgN 3) (sSeq (sFor (iSeq (eLst (aCons (eUn gNeg (eInt 2)) (aCons (eInt 2) aNil)))) (tgN 4) (sSeq (sSet 5 (eBin gMul (eLst (aCons (eInt 0) aNil)) (eInt 8))) (sSeq (sPut 5 (eVar 3) (eVar 1)) (sSeq (sPut 5 (eVar 4) (eVar 2)) (sSeq (sMut 0 gApp (eVar 5)) sNil))))) sNil)) sNil)) sNil)) (sSeq (sFor (iRg1 (aCons (eInt 256) aNil)) (tgN 6) (sSeq (sSet 5 (eLc (iRg1 (aCons (eInt 8) aNil)) (tgN 7) bYes (eBin gSub (eInt 1) (eBin gMul (eInt 2) (eBin gAnd (eBin gShr (eVar 6) (eVar 7)) (eInt 1)))) [7])) (sSeq (sIf (bCmp gEq (eBin gMod (eCB gInt (aCons (eCB gSum (aCons (eVar 5) aNil)) aNil)) (eInt 4)) (eInt 0)) (sSeq (sMut 0 gApp (eVar 5)) sNil) sNil) sNil))) (sSeq (sRet (eCB gSorted (aCons (eVar 0) aNil))) sNil))))
noncomputable def F__law_roots : Fn := runB B__law_roots 0 8
abbrev s__law_row : Stmt := topS 33
theorem sc__law_row : FnScope ["feed", "roots", "most", "row", "step"] ["feed", "roots", "most"] (defScope s__law_row) := ⟨rfl, rfl, rfl, by decide +kernel, rfl, by decide +kernel, by decide +kernel⟩
def B__law_row : SS := (sSeq (sSet 3 (eBin gMul (eLst (aCons (eInt 0) aNil)) (eInt 8))) (sSeq (sFor (iRg1 (aCons (eCall F__law_draw (aCons (eVar 0) (aCons (eBin gAdd (eVar 2) (eInt 1)) aNil))) aNil)) (tgN 4) (sSeq (sSet 3 (eCall F__law_less (aCons (eVar 3) (aCons (eBin gIx (eVar 1) (eCall F__law_draw (aCons (eVar 0) (aCons (eInt 240) aNil)))) (aCons (eUn gNeg (eInt 1)) aNil))))) sNil)) (sSeq (sRet (eVar 3)) sNil)))
def F__law_row : Fn := runB B__law_row 3 5
abbrev s__law_fours : Stmt := topS 34
theorem sc__law_fours : FnScope ["found", "bits", "places", "signs", "row", "j", "at", "ones", "k"] [] (defScope s__law_fours) := ⟨rfl, rfl, rfl, by decide +kernel, rfl, by decide +kernel, by decide +kernel⟩
noncomputable def B__law_fours : SS := (sSeq (sSet 0 (eLst aNil)) (sSeq (sFor (iRg1 (aCons (eInt 256) aNil)) (tgN 1) (sSeq (sSet 2 (eLc (iRg1 (aCons (eInt 8) aNil)) (tgN 8) (bCmp gEq (eBin gAnd (eBin gShr (eVar 1) (eVar 8)) (eInt 1)) (eInt 1)) (eVar 8) [8])) (sSeq (sIf (bCmp gEq (eCB gLen (aCons (eVar 2) aNil)) (eInt 4)) (sSeq (sFor (iRg1 (aCons (eInt 16) aNil)) (tgN 3) (sSeq (sSet 4 (eBin gMul (eLst (aCons (eInt 0) aNil)) (eInt 8))) (sSeq (sFor (iRg1 (aCons (eInt 4) aNil)) (tgN 5) (sSeq (sSet 6 (eBin gIx (eVar 2) (eVar 5))) (sSeq (sPut 4 (eBin gSub (eInt 2) (eBin gMul (eInt 4) (eBin gAnd (eBin gShr (eVar 3) (eVar 5)) (eInt 1)))) (eVar 6)) sNil))) (sSeq (sMut 0 gApp (eVar 4)) sNil)))) sNil) sNil) (sSeq (sSet 7 (eLc (iRg1 (aCons (eInt 8) aNil)) (tgN 8) bYes (eBin gSub (eInt 1) (eBin gMul (eInt 2) (eBin gAnd (eBin gShr (eVar 1) (eVar 8)) (eInt 1)))) [8])) (sSeq (sFor (iRg1 (aCons (eInt 8) aNil)) (tgN 6) (sSeq (sSet 4 (eBin gAdd (eBin gAdd (eSl (eVar 7) oNone (oSome (eVar 6))) (eLst (aCons (eBin gMul (eInt 3) (eBin gIx (eVar 7) (eVar 6))) aNil))) (eSl (eVar 7) (oSome (eBin gAdd (eVar 6) (eInt 1))) oNone))) (sSeq (sIf (bCmp gEq (eBin gMod (eCB gInt (aCons (eCB gSum (aCons (eVar 4) aNil)) aNil)) (eInt 4)) (eInt 0)) (sSeq (sMut 0 gApp (eVar 4)) sNil) sNil) sNil))) sNil))))) (sSeq (sFor (iRg1 (aCons (eInt 8) aNil)) (tgN 6) (sSeq (sMut 0 gApp (eLc (iRg1 (aCons (eInt 8) aNil)) (tgN 8) bYes (eBin gMul (eInt 4) (eCB gInt (aCons (eBin gEq (eVar 8) (eVar 6)) aNil))) [8])) (sSeq (sMut 0 gApp (eLc (iRg1 (aCons (eInt 8) aNil)) (tgN 8) bYes (eBin gSub (eInt 0) (eBin gMul (eInt 4) (eCB gInt (aCons (eBin gEq (eVar 8) (eVar 6)) aNil)))) [8])) sNil))) (sSeq (sRet (eCB gSorted (aCons (eVar 0) aNil))) sNil))))
noncomputable def F__law_fours : Fn := runB B__law_fours 0 9
abbrev s__law_due : Stmt := topS 35
theorem sc__law_due : FnScope ["every", "fours", "row", "roots", "root", "own"] ["every", "fours", "row"] (defScope s__law_due) := ⟨rfl, rfl, rfl, by decide +kernel, rfl, by decide +kernel, by decide +kernel⟩
def B__law_due : SS := (sSeq (sIf (bTru (eCall F__law_is_twice (aCons (eVar 2) aNil))) (sSeq (sRet (eTup (aCons (eStr "nothing") aNil))) sNil) sNil) (sSeq (sSet 3 (eLc (iSeq (eVar 0)) (tgN 4) (bTru (eCall F__law_is_twice (aCons (eCall F__law_less (aCons (eVar 2) (aCons (eVar 4) (aCons (eInt 1) aNil)))) aNil))) (eVar 4) [4])) (sSeq (sIf (bCmp gGtA (eCB gLen (aCons (eVar 3) aNil)) (eInt 0)) (sSeq (sRet (eTup (aCons (eStr "pair") (aCons (eBin gIx (eVar 3) (eUn gNeg (eInt 1))) aNil)))) sNil) sNil) (sSeq (sRet (eTup (aCons (eStr "frame") (aCons (eLc (iSeq (eVar 1)) (tgN 5) (bTru (eCall F__law_is_twice (aCons (eCall F__law_less (aCons (eVar 2) (aCons (eVar 5) (aCons (eInt 1) aNil)))) aNil))) (eVar 5) [5]) aNil)))) sNil))))
def F__law_due : Fn := runB B__law_due 3 6
abbrev s__law_right : Stmt := topS 36
theorem sc__law_right : FnScope ["every", "fours", "row", "handed", "due", "told", "half", "rows", "own"] ["every", "fours", "row"] (defScope s__law_right) := ⟨rfl, rfl, rfl, by decide +kernel, rfl, by decide +kernel, by decide +kernel⟩
noncomputable def B__law_right : SS := (sSeq (sSet 3 (eCB gList (aCons (eVar 2) aNil))) (sSeq (sSet 4 (eCall F__law_due (aCons (eVar 0) (aCons (eVar 1) (aCons (eVar 2) aNil))))) (sFresh 5 3 F_rest_by_two (sSeq (sIfD 5 (bOr (bNot (bTru (eCall (F__law_same 8) (aCons (eVar 5) (aCons (eVar 4) aNil))))) (bCmp gNe (eVar 3) (eVar 2))) (sSeq (sRet (eBl false)) sNil)) (sSeq (sHid 5 (sSet 6 (eBin gMod (eCB gInt (aCons (eBin gDiv (eCall F__law_times (aCons (eVar 2) (aCons (eVar 2) aNil))) (eInt 2)) aNil)) (eInt 2)))) (sSeq (sIfD 5 (bOr (bNot (bTru (eCall (F__law_same 8) (aCons (eCall F_sum_by_two (aCons (eVar 3) aNil)) (aCons (eVar 6) aNil))))) (bCmp gNe (eVar 6) (eCB gInt (aCons (eBin gEq (eBin gIx (eVar 4) (eInt 0)) (eStr "pair")) aNil)))) (sSeq (sRet (eBl false)) sNil)) (sSeq (sIfE 5 (bCmp gEq (eBin gIx (eVar 4) (eInt 0)) (eStr "frame")) (sSeq (sHid 5 (sSet 7 (eBin gIx (eVar 4) (eInt 1)))) (sSeq (sIfD 5 (bOr (bCmp gNe (eCB gLen (aCons (eVar 7) aNil)) (eInt 16)) (bCmp gGtA (eCB gLen (aCons (eLc (iSeq (eVar 7)) (tgN 8) (bCmp (gIn true) (eCall F__law_times (aCons (eVar 8) (aCons (eBin gIx (eVar 7) (eInt 0)) aNil))) (eLst (aCons (eInt 0) (aCons (eInt 4) (aCons (eUn gNeg (eInt 4)) aNil))))) (eVar 8) [8]) aNil)) (eInt 0))) (sSeq (sRet (eBl false)) sNil)) (sPokeT 5 1 (eLst aNil))))) (sSeq (sIfE 5 (bCmp gEq (eBin gIx (eVar 4) (eInt 0)) (eStr "pair")) (sPokeT 5 1 (eInt 0))) (sEndT 5 (sSeq (sRet (eCall (F__law_same 8) (aCons (eCall F_rest_by_two (aCons (eVar 3) aNil)) (aCons (eVar 4) aNil)))) sNil))))))))))
noncomputable def F__law_right : Fn := runB B__law_right 3 9
abbrev s__law_frames_right : Stmt := topS 37
theorem sc__law_frames_right : FnScope ["fours", "base", "told", "rows", "rests", "own", "one", "root"] ["fours"] (defScope s__law_frames_right) := ⟨rfl, rfl, rfl, by decide +kernel, rfl, by decide +kernel, by decide +kernel⟩
noncomputable def B__law_frames_right : SS := (sSeq (sSet 1 (eCall0 F__law_base)) (sSeq (sSet 2 (eCall0 F_frames)) (sSeq (sIf (bOr (bNot (bTru (eUn (gIsi "list") (eVar 2)))) (bCmp gNe (eCB gLen (aCons (eVar 2) aNil)) (eInt 135))) (sSeq (sRet (eBl false)) sNil) sNil) (sSeq (sSet 3 (eLst aNil)) (sSeq (sSet 4 (eLst aNil)) (sSeq (sFor (iSeq (eVar 2)) (tgN 5) (sSeq (sIf (bOr (bNot (bTru (eUn (gIsi "list") (eVar 5)))) (bOr (bCmp gNe (eCB gLen (aCons (eVar 5) aNil)) (eInt 16)) (bNot (bTru (eCall (F__law_same 8) (aCons (eVar 5) (aCons (eCB gSorted (aCons (eVar 5) aNil)) aNil))))))) (sSeq (sRet (eBl false)) sNil) sNil) (sSeq (sSet 3 (eBin gAdd (eVar 3) (eVar 5))) (sSeq (sMut 4 gApp (eLc (iSeq (eVar 1)) (tgN 7) bYes (eBin gMod (eCB gInt (aCons (eCall F__law_times (aCons (eVar 7) (aCons (eBin gIx (eVar 5) (eInt 0)) aNil))) aNil)) (eInt 2)) [7])) (sSeq (sFor (iSeq (eVar 5)) (tgN 6) (sSeq (sIf (bOr (bNot (bTru (eCall F__law_is_twice (aCons (eCall F__law_less (aCons (eVar 6) (aCons (eBin gIx (eVar 5) (eInt 0)) (aCons (eInt 1) aNil)))) aNil)))) (bCmp (gIn true) (eCall F__law_times (aCons (eVar 6) (aCons (eBin gIx (eVar 5) (eInt 0)) aNil))) (eLst (aCons (eInt 0) (aCons (eInt 4) (aCons (eUn gNeg (eInt 4)) aNil)))))) (sSeq (sRet (eBl false)) sNil) sNil) sNil)) sNil))))) (sSeq (sRet (eAnd (eBin gEq (eCB gSorted (aCons (eVar 3) aNil)) (eVar 0)) (eAnd (eBin gEq (eVar 2) (eCB gSorted (aCons (eVar 2) aNil))) (eBin gEq (eCB gLen (aCons (eCall F__law_each (aCons (eVar 4) aNil)) aNil)) (eInt 135))))) sNil)))))))
noncomputable def F__law_frames_right : Fn := runB B__law_frames_right 1 8
abbrev s_law : Stmt := topS 38
theorem sc_law : FnScope ["script", "feed", "every", "fours", "row", "more", "four", "own", "x"] ["script"] (defScope s_law) := ⟨rfl, rfl, rfl, by decide +kernel, rfl, by decide +kernel, by decide +kernel⟩
noncomputable def B_law : SS := (sSeq (sSet 2 (eCall0 F__law_roots)) (sSeq (sSet 3 (eCall0 F__law_fours)) (sSeq (sIf (bCmp gNe (eCB gLen (aCons (eVar 3) aNil)) (eInt 2160)) (sSeq (sRet (eBl false)) sNil) sNil) (sSeq (sSet 4 (eCall F__law_row (aCons (eVar 1) (aCons (eVar 2) (aCons (eInt 4) aNil))))) (sSeq (sSet 5 (eCall F__law_row (aCons (eVar 1) (aCons (eVar 2) (aCons (eInt 3) aNil))))) (sSeq (sSet 6 (eBin gIx (eVar 3) (eCall F__law_draw (aCons (eVar 1) (aCons (eInt 2160) aNil))))) (sSeq (sFor (iSeq (eLst (aCons (eVar 4) (aCons (eLc (iSeq (eVar 5)) (tgN 8) bYes (eBin gMul (eInt 2) (eVar 8)) [8]) (aCons (eBin gIx (eVar 2) (eCall F__law_draw (aCons (eVar 1) (aCons (eInt 240) aNil)))) (aCons (eCall F__law_less (aCons (eVar 6) (aCons (eVar 5) (aCons (eInt 2) aNil)))) aNil)))))) (tgN 7) (sSeq (sIf (bNot (bTru (eCall F__law_right (aCons (eVar 2) (aCons (eVar 3) (aCons (eVar 7) aNil)))))) (sSeq (sRet (eBl false)) sNil) sNil) sNil)) (sSeq (sIf (bNot (bTru (eCall (F__law_same 8) (aCons (eCall0 F_count_rests) (aCons (eTup (aCons (eInt 1) (aCons (eInt 120) (aCons (eInt 135) aNil)))) aNil))))) (sSeq (sRet (eBl false)) sNil) sNil) (sSeq (sIf (bAnd (bCmp gEq (eCall F__law_draw (aCons (eVar 1) (aCons (eInt 8) aNil))) (eInt 0)) (bNot (bTru (eCall F__law_frames_right (aCons (eVar 3) aNil))))) (sSeq (sRet (eBl false)) sNil) sNil) (sSeq (sIf (bNot (bTru (eCall (F__law_same 8) (aCons (eSl (eBin gIx (eCall F_rest_by_two (aCons (eLst (aCons (eInt 0) (aCons (eInt 0) (aCons (eInt 0) (aCons (eInt 0) (aCons (eInt 0) (aCons (eInt 0) (aCons (eInt 0) (aCons (eInt 4) aNil))))))))) aNil)) (eInt 1)) oNone (oSome (eInt 1))) (aCons (eLst (aCons (eLst (aCons (eUn gNeg (eInt 4)) (aCons (eInt 0) (aCons (eInt 0) (aCons (eInt 0) (aCons (eInt 0) (aCons (eInt 0) (aCons (eInt 0) (aCons (eInt 0) aNil))))))))) aNil)) aNil))))) (sSeq (sRet (eBl false)) sNil) sNil) (sSeq (sRet (eCall (F__law_same 8) (aCons (eLst (aCons (eCall F_rest_by_two (aCons (eBin gMul (eLst (aCons (eInt 0) aNil)) (eInt 8)) aNil)) (aCons (eCall F_rest_by_two (aCons (eBin gMul (eLst (aCons (eUn gNeg (eInt 1)) aNil)) (eInt 8)) aNil)) aNil))) (aCons (eLst (aCons (eTup (aCons (eStr "nothing") aNil)) (aCons (eTup (aCons (eStr "pair") (aCons (eBin gMul (eLst (aCons (eInt 1) aNil)) (eInt 8)) aNil))) aNil))) aNil)))) sNil)))))))))))
section
variable {P : Program} {w : World} {K : PySem.W.Frag} {mg : Str → Option Value} {base : Heap} {cls : Str → Option (Addr × List Str)}
theorem ok_fault_of_kind {f : Addr} {fd : FuncData} (F : Fun K "fault_of_kind" "fault_of_kind" s_fault_of_kind f fd) (m_any : mg "any" = none) (m_sum : mg "sum" = none) (g_SIZE : ∃ t, mg "SIZE" = some (.int 8 t)) :
    FnOk P w K mg base (L2.CX P w) 1 f fd ["row"] (spF cls K [true] .o F_fault_of_kind) :=
  fn_sem F sc_fault_of_kind [true] rfl .o B_fault_of_kind fun cdv A outer s H E cf cZ cH s0 r0 hr => (
s_cons (own := [.p, .s]) (o1 := [.p, .s]) (s_if (on := [.p, .s]) (b_tru rfl (EX.o2p (x_any rfl rfl m_any (x_cons (EX.o2p (x_lc [("number", 1)] rfl sc_fault_of_kind.nd (by kernel_rfl) (i_seq rfl (x_var 0)) (fun _ _ _ _ _ => (g_name 1 sc_fault_of_kind.nd)) (fun _ _ _ _ _ => t_yes) (fun _ _ _ _ _ => (EX.o2s (x_ne rfl (hu64 hr) (EX.o2p (x_mod (EX.o2p (x_sub (x_var 1) (EX.s2p (x_ix rfl (x_var 0) (EX.o2p x_int))))) (EX.o2p x_int))) (EX.o2p x_int)))))) x_nil))))
 (s_cons (own := [.p, .s]) (s_ret (x_glob (v := .int 8) (hm := g_SIZE.choose_spec) (r := ⟨_, rfl⟩) (rd := fun _ _ _ => .int 8)))
  (s_nil (own := [.p, .s])))
 (s_nil))
  (s_cons (own := [.p, .s]) (o1 := [.p, .s]) (s_if (on := [.p, .s]) (b_ne rfl (hu64 hr) (EX.o2p (x_mod (EX.o2p (x_sum rfl rfl m_sum (x_cons (x_var 0) x_nil))) (EX.o2p x_int))) (EX.o2p x_int))
 (s_cons (own := [.p, .s]) (s_ret (x_add rfl (EX.o2p (x_glob (v := .int 8) (hm := g_SIZE.choose_spec) (r := ⟨_, rfl⟩) (rd := fun _ _ _ => .int 8))) (EX.o2p x_int)))
  (s_nil (own := [.p, .s])))
 (s_nil))
  (s_cons (own := [.p, .s]) (s_ret x_non)
  (s_nil (own := [.p, .s])))))
theorem ok_row_product {f : Addr} {fd : FuncData} (F : Fun K "row_product" "row_product" s_row_product f fd) (m_sum : mg "sum" = none) (m_zip : mg "zip" = none) :
    FnOk P w K mg base (L2.CX P w) 1 f fd ["one", "other"] (spF cls K [true, true] .o F_row_product) :=
  fn_sem F sc_row_product [true, true] rfl .o B_row_product fun cdv A outer s H E cf cZ cH s0 r0 hr => (
s_cons (own := [.p, .p, .s, .s]) (s_ret (x_div (EX.o2p (x_sum rfl rfl m_sum (x_cons (EX.o2p (x_lc [("a", 2), ("b", 3)] rfl sc_row_product.nd (by kernel_rfl) (i_zip rfl m_zip (x_cons (x_var 0) (x_cons (x_var 1) x_nil))) (fun _ _ _ _ _ => (g_tup rfl rfl (gs_cons (g_name 2 sc_row_product.nd) (gs_cons (g_name 3 sc_row_product.nd) gs_nil)))) (fun _ _ _ _ _ => t_yes) (fun _ _ _ _ _ => (EX.o2s (x_mul (x_var 2) (x_var 3)))))) x_nil))) (EX.o2p x_int)))
  (s_nil (own := [.p, .p, .s, .s])))
theorem ok_row_square {f : Addr} {fd : FuncData} (F : Fun K "row_square" "row_square" s_row_square f fd) (c_row_product : Cal P w K mg base cls "row_product" 1 [true, true] .o F_row_product) :
    FnOk P w K mg base (L2.CX P w) 2 f fd ["row"] (spF cls K [true] .o F_row_square) :=
  fn_sem F sc_row_square [true] rfl .o B_row_square fun cdv A outer s H E cf cZ cH s0 r0 hr => (
s_cons (own := [.p]) (s_ret (x_call rfl c_row_product (hr.mono (by decide)) (takes_of rfl rfl rfl rfl) (m_p (x_var 0) (m_p (x_var 0) m_nil))))
  (s_nil (own := [.p])))
theorem ok_row_less {f : Addr} {fd : FuncData} (F : Fun K "row_less" "row_less" s_row_less f fd) (m_zip : mg "zip" = none) :
    FnOk P w K mg base (L2.CX P w) 1 f fd ["one", "other"] (spF cls K [true, true] .o F_row_less) :=
  fn_sem F sc_row_less [true, true] rfl .o B_row_less fun cdv A outer s H E cf cZ cH s0 r0 hr => (
s_cons (own := [.p, .p, .s, .s]) (s_ret (x_lc [("a", 2), ("b", 3)] rfl sc_row_less.nd (by kernel_rfl) (i_zip rfl m_zip (x_cons (x_var 0) (x_cons (x_var 1) x_nil))) (fun _ _ _ _ _ => (g_tup rfl rfl (gs_cons (g_name 2 sc_row_less.nd) (gs_cons (g_name 3 sc_row_less.nd) gs_nil)))) (fun _ _ _ _ _ => t_yes) (fun _ _ _ _ _ => (EX.o2s (x_sub (x_var 2) (x_var 3))))))
  (s_nil (own := [.p, .p, .s, .s])))
theorem ok_even_roots {f : Addr} {fd : FuncData} (F : Fun K "even_roots" "even_roots" s_even_roots f fd) (m_range : mg "range" = none) (g_SIZE : ∃ t, mg "SIZE" = some (.int 8 t)) :
    FnOk P w K mg base (L2.CX P w) 1 f fd [] (spF cls K [] .o F_even_roots) :=
  fn_sem F sc_even_roots [] rfl .o B_even_roots fun cdv A outer s H E cf cZ cH s0 r0 hr => (
s_cons (own := [.s, .s, .s, .s, .s, .s]) (o1 := [.o, .s, .s, .s, .s, .s]) (s_setO 0 sc_even_roots.nd (x_lst x_nil))
  (s_cons (own := [.o, .s, .s, .s, .s, .s]) (o1 := [.o, .s, .s, .s, .s, .s]) (s_for (own := [.o, .s, .s, .s, .s, .s]) (o1 := [.o, .s, .s, .s, .s, .s]) (passes_of rfl) rfl (i_range1 m_range (x_cons (EX.o2p (x_glob (v := .int 8) (hm := g_SIZE.choose_spec) (r := ⟨_, rfl⟩) (rd := fun _ _ _ => .int 8))) x_nil)) (g_name 1 sc_even_roots.nd)
 (s_cons (own := [.o, .s, .s, .s, .s, .s]) (o1 := [.o, .s, .s, .s, .s, .s]) (s_for (own := [.o, .s, .s, .s, .s, .s]) (o1 := [.o, .s, .s, .s, .s, .s]) (passes_of rfl) rfl (i_range1 m_range (x_cons (x_var 1) x_nil)) (g_name 2 sc_even_roots.nd)
 (s_cons (own := [.o, .s, .s, .s, .s, .s]) (o1 := [.o, .s, .s, .s, .s, .s]) (s_for (own := [.o, .s, .s, .s, .s, .s]) (o1 := [.o, .s, .s, .s, .s, .s]) (passes_of rfl) rfl (i_seq rfl (x_tup (x_cons (x_tup (x_cons (EX.o2s x_int) (x_cons (EX.o2s x_int) x_nil))) (x_cons (x_tup (x_cons (EX.o2s x_int) (x_cons (EX.o2s (x_neg (EX.o2p x_int))) x_nil))) (x_cons (x_tup (x_cons (EX.o2s (x_neg (EX.o2p x_int))) (x_cons (EX.o2s x_int) x_nil))) (x_cons (x_tup (x_cons (EX.o2s (x_neg (EX.o2p x_int))) (x_cons (EX.o2s (x_neg (EX.o2p x_int))) x_nil))) x_nil)))))) (g_tup rfl rfl (gs_cons (g_name 3 sc_even_roots.nd) (gs_cons (g_name 4 sc_even_roots.nd) gs_nil)))
 (s_cons (own := [.o, .s, .s, .s, .s, .s]) (o1 := [.o, .s, .s, .s, .s, .o]) (s_setO 5 sc_even_roots.nd (x_mul (EX.o2p (x_lst (x_cons (EX.o2s x_int) x_nil))) (EX.o2p (x_glob (v := .int 8) (hm := g_SIZE.choose_spec) (r := ⟨_, rfl⟩) (rd := fun _ _ _ => .int 8)))))
  (s_cons (own := [.o, .s, .s, .s, .s, .o]) (o1 := [.o, .s, .s, .s, .s, .o]) (s_put 5 (x_varS 3) (x_var 2))
  (s_cons (own := [.o, .s, .s, .s, .s, .o]) (o1 := [.o, .s, .s, .s, .s, .o]) (s_put 5 (x_varS 4) (x_var 1))
  (s_frz [5] (by decide) (s_cons (own := [.o, .s, .s, .s, .s, .s]) (o1 := [.o, .s, .s, .s, .s, .s]) (s_append 0 (x_varS 5))
  (s_nil)))))))
  (s_nil)))
  (s_nil)))
  (s_cons (own := [.o, .s, .s, .s, .s, .s]) (s_retN 0)
  (s_nil (own := [.o, .s, .s, .s, .s, .s])))))
theorem ok_odd_roots {f : Addr} {fd : FuncData} (F : Fun K "odd_roots" "odd_roots" s_odd_roots f fd) (m_range : mg "range" = none) (m_sum : mg "sum" = none) (g_SIZE : ∃ t, mg "SIZE" = some (.int 8 t)) :
    FnOk P w K mg base (L2.CX P w) 1 f fd [] (spF cls K [] .o F_odd_roots) :=
  fn_sem F sc_odd_roots [] rfl .o B_odd_roots fun cdv A outer s H E cf cZ cH s0 r0 hr => (
s_cons (own := [.s, .s, .s, .s]) (o1 := [.s, .s, .s, .s]) (s_setS 0 sc_odd_roots.nd (EX.o2s (x_lst (x_cons (EX.o2s (x_lst x_nil)) x_nil))))
  (s_cons (own := [.s, .s, .s, .s]) (o1 := [.s, .s, .s, .s]) (s_for (own := [.s, .s, .s, .s]) (o1 := [.s, .s, .s, .s]) (passes_of rfl) rfl (i_range1 m_range (x_cons (EX.o2p (x_glob (v := .int 8) (hm := g_SIZE.choose_spec) (r := ⟨_, rfl⟩) (rd := fun _ _ _ => .int 8))) x_nil)) (g_name 1 sc_odd_roots.nd)
 (s_end (on := [.o, .s, .s, .s]) [0] (by decide) (s_cons (own := [.s, .s, .s, .s]) (o1 := [.o, .s, .s, .s]) (s_setLc2 0 [("row", 2), ("sign", 3)] [3] rfl sc_odd_roots.nd (by kernel_rfl) (i_seq rfl (x_var 0)) (fun _ _ _ _ _ => (g_name 2 sc_odd_roots.nd)) (fun _ _ _ _ _ => t_yes) (fun _ _ _ _ _ => (i_seq rfl (x_tup (x_cons (EX.o2s (x_neg (EX.o2p x_int))) (x_cons (EX.o2s x_int) x_nil))))) (fun _ _ _ _ _ => (g_name 3 sc_odd_roots.nd)) (fun _ _ _ _ _ => t_yes) (fun _ _ _ _ _ => (EX.o2s (x_add rfl (x_var 2) (EX.o2p (x_lst (x_cons (x_varS 3) x_nil)))))))
  (s_nil))))
  (s_cons (own := [.s, .s, .s, .s]) (s_ret (x_lc [("row", 2)] rfl sc_odd_roots.nd (by kernel_rfl) (i_seq rfl (x_var 0)) (fun _ _ _ _ _ => (g_name 2 sc_odd_roots.nd)) (fun _ _ _ _ _ => (t_one (b_eq rfl (hu64 hr) (EX.o2p (x_mod (EX.o2p (x_sum rfl rfl m_sum (x_cons (x_var 2) x_nil))) (EX.o2p x_int))) (EX.o2p x_int)))) (fun _ _ _ _ _ => (x_varS 2))))
  (s_nil (own := [.s, .s, .s, .s])))))
theorem ok_all_roots {f : Addr} {fd : FuncData} (F : Fun K "all_roots" "all_roots" s_all_roots f fd) (c_even_roots : Cal P w K mg base cls "even_roots" 1 [] .o F_even_roots) (c_odd_roots : Cal P w K mg base cls "odd_roots" 1 [] .o F_odd_roots) (m_sorted : mg "sorted" = none) :
    FnOk P w K mg base (L2.CX P w) 2 f fd [] (spF cls K [] .o F_all_roots) :=
  fn_sem F sc_all_roots [] rfl .o B_all_roots fun cdv A outer s H E cf cZ cH s0 r0 hr => (
s_cons (own := []) (s_ret (x_sorted rfl (hu66 hr) m_sorted (x_cons (EX.o2p (x_add rfl (EX.o2p (x_call0 rfl c_even_roots (hr.mono (by decide)))) (EX.o2p (x_call0 rfl c_odd_roots (hr.mono (by decide)))))) x_nil)))
  (s_nil (own := [])))
theorem ok_base_roots {f : Addr} {fd : FuncData} (F : Fun K "base_roots" "base_roots" s_base_roots f fd) (m_range : mg "range" = none) (g_SIZE : ∃ t, mg "SIZE" = some (.int 8 t)) :
    FnOk P w K mg base (L2.CX P w) 1 f fd [] (spF cls K [] .o F_base_roots) :=
  fn_sem F sc_base_roots [] rfl .o B_base_roots fun cdv A outer s H E cf cZ cH s0 r0 hr => (
s_cons (own := [.s, .s, .s]) (o1 := [.o, .s, .s]) (s_setO 0 sc_base_roots.nd (x_lst (x_cons (EX.o2s (x_lst (x_cons (EX.o2s x_int) (x_cons (EX.o2s (x_neg (EX.o2p x_int))) (x_cons (EX.o2s (x_neg (EX.o2p x_int))) (x_cons (EX.o2s (x_neg (EX.o2p x_int))) (x_cons (EX.o2s (x_neg (EX.o2p x_int))) (x_cons (EX.o2s (x_neg (EX.o2p x_int))) (x_cons (EX.o2s (x_neg (EX.o2p x_int))) (x_cons (EX.o2s x_int) x_nil)))))))))) (x_cons (EX.o2s (x_lst (x_cons (EX.o2s x_int) (x_cons (EX.o2s x_int) (x_cons (EX.o2s x_int) (x_cons (EX.o2s x_int) (x_cons (EX.o2s x_int) (x_cons (EX.o2s x_int) (x_cons (EX.o2s x_int) (x_cons (EX.o2s x_int) x_nil)))))))))) x_nil))))
  (s_cons (own := [.o, .s, .s]) (o1 := [.o, .s, .s]) (s_for (own := [.o, .s, .s]) (o1 := [.o, .s, .s]) (passes_of rfl) rfl (i_range1 m_range (x_cons (EX.o2p (x_sub (EX.o2p (x_glob (v := .int 8) (hm := g_SIZE.choose_spec) (r := ⟨_, rfl⟩) (rd := fun _ _ _ => .int 8))) (EX.o2p x_int))) x_nil)) (g_name 1 sc_base_roots.nd)
 (s_cons (own := [.o, .s, .s]) (o1 := [.o, .s, .o]) (s_setO 2 sc_base_roots.nd (x_mul (EX.o2p (x_lst (x_cons (EX.o2s x_int) x_nil))) (EX.o2p (x_glob (v := .int 8) (hm := g_SIZE.choose_spec) (r := ⟨_, rfl⟩) (rd := fun _ _ _ => .int 8)))))
  (s_cons (own := [.o, .s, .o]) (o1 := [.o, .s, .o]) (s_put 2 (EX.o2s (x_neg (EX.o2p x_int))) (x_var 1))
  (s_cons (own := [.o, .s, .o]) (o1 := [.o, .s, .o]) (s_put 2 (EX.o2s x_int) (EX.o2p (x_add rfl (x_var 1) (EX.o2p x_int))))
  (s_frz [2] (by decide) (s_cons (own := [.o, .s, .s]) (o1 := [.o, .s, .s]) (s_append 0 (x_varS 2))
  (s_nil)))))))
  (s_cons (own := [.o, .s, .s]) (s_retN 0)
  (s_nil (own := [.o, .s, .s])))))
theorem ok_is_twice {f : Addr} {fd : FuncData} (F : Fun K "is_twice" "is_twice" s_is_twice f fd) (c_fault_of_kind : Cal P w K mg base cls "fault_of_kind" 1 [true] .o F_fault_of_kind) (m_any : mg "any" = none) :
    FnOk P w K mg base (L2.CX P w) 2 f fd ["numbers"] (spF cls K [true] .o F_is_twice) :=
  fn_sem F sc_is_twice [true] rfl .o B_is_twice fun cdv A outer s H E cf cZ cH s0 r0 hr => (
s_cons (own := [.p, .s]) (o1 := [.p, .s]) (s_if (on := [.p, .s]) (b_tru rfl (EX.o2p (x_any rfl rfl m_any (x_cons (EX.o2p (x_lc [("number", 1)] rfl sc_is_twice.nd (by kernel_rfl) (i_seq rfl (x_var 0)) (fun _ _ _ _ _ => (g_name 1 sc_is_twice.nd)) (fun _ _ _ _ _ => t_yes) (fun _ _ _ _ _ => (EX.o2s (x_ne rfl (hu64 hr) (EX.o2p (x_mod (x_var 1) (EX.o2p x_int))) (EX.o2p x_int)))))) x_nil))))
 (s_cons (own := [.p, .s]) (s_ret x_bl)
  (s_nil (own := [.p, .s])))
 (s_nil))
  (s_cons (own := [.p, .s]) (s_ret (x_is (EX.o2p (x_call rfl c_fault_of_kind (hr.mono (by decide)) (takes_of rfl rfl rfl rfl) (m_p (EX.o2p (x_lc [("number", 1)] rfl sc_is_twice.nd (by kernel_rfl) (i_seq rfl (x_var 0)) (fun _ _ _ _ _ => (g_name 1 sc_is_twice.nd)) (fun _ _ _ _ _ => t_yes) (fun _ _ _ _ _ => (EX.o2s (x_div (x_var 1) (EX.o2p x_int)))))) m_nil))) (EX.o2p x_non)))
  (s_nil (own := [.p, .s]))))
theorem ok_lists_of {f : Addr} {fd : FuncData} (F : Fun K "lists_of" "lists_of" s_lists_of f fd) :
    FnOk P w K mg base (L2.CX P w) 1 f fd ["choices"] (spF cls K [true] .o F_lists_of) :=
  fn_sem F sc_lists_of [true] rfl .o B_lists_of fun cdv A outer s H E cf cZ cH s0 r0 hr => (
s_cons (own := [.p, .s, .s, .s, .s]) (o1 := [.p, .o, .s, .s, .s]) (s_setO 1 sc_lists_of.nd (x_lst (x_cons (EX.o2s (x_lst x_nil)) x_nil)))
  (s_cons (own := [.p, .o, .s, .s, .s]) (o1 := [.p, .o, .s, .s, .s]) (s_for (own := [.p, .o, .s, .s, .s]) (o1 := [.p, .o, .s, .s, .s]) (passes_of rfl) rfl (i_seqP 0 rfl) (g_name 2 sc_lists_of.nd)
 (s_cons (own := [.p, .o, .s, .s, .s]) (o1 := [.p, .o, .s, .s, .s]) (s_setLc2 1 [("row", 3), ("number", 4)] [4] rfl sc_lists_of.nd (by kernel_rfl) (i_seq rfl (x_var 1)) (fun _ _ _ _ _ => (g_name 3 sc_lists_of.nd)) (fun _ _ _ _ _ => t_yes) (fun _ _ _ _ _ => (i_seq rfl (x_varS 2))) (fun _ _ _ _ _ => (g_name 4 sc_lists_of.nd)) (fun _ _ _ _ _ => t_yes) (fun _ _ _ _ _ => (EX.o2s (x_add rfl (x_var 3) (EX.o2p (x_lst (x_cons (x_varS 4) x_nil)))))))
  (s_nil)))
  (s_cons (own := [.p, .o, .s, .s, .s]) (s_retN 1)
  (s_nil (own := [.p, .o, .s, .s, .s])))))
theorem ok_rows_of_square_four {f : Addr} {fd : FuncData} (F : Fun K "rows_of_square_four" "rows_of_square_four" s_rows_of_square_four f fd) (c_lists_of : Cal P w K mg base cls "lists_of" 1 [true] .o F_lists_of) (c_row_square : Cal P w K mg base cls "row_square" 2 [true] .o F_row_square) (m_sum : mg "sum" = none) (m_range : mg "range" = none) (m_sorted : mg "sorted" = none) (g_SIZE : ∃ t, mg "SIZE" = some (.int 8 t)) :
    FnOk P w K mg base (L2.CX P w) 3 f fd [] (spF cls K [] .o F_rows_of_square_four) :=
  fn_sem F sc_rows_of_square_four [] rfl .o B_rows_of_square_four fun cdv A outer s H E cf cZ cH s0 r0 hr => (
s_cons (own := [.s, .s, .s, .s, .s, .s]) (o1 := [.o, .s, .s, .s, .s, .s]) (s_setLc 0 [("row", 3)] rfl sc_rows_of_square_four.nd (by kernel_rfl) (i_seq rfl (EX.o2p (x_call rfl c_lists_of (hr.mono (by decide)) (takes_of rfl rfl rfl rfl) (m_p (EX.o2p (x_mul (EX.o2p (x_lst (x_cons (x_tup (x_cons (EX.o2s (x_neg (EX.o2p x_int))) (x_cons (EX.o2s x_int) (x_cons (EX.o2s x_int) x_nil)))) x_nil))) (EX.o2p (x_glob (v := .int 8) (hm := g_SIZE.choose_spec) (r := ⟨_, rfl⟩) (rd := fun _ _ _ => .int 8))))) m_nil)))) (fun _ _ _ _ _ => (g_name 3 sc_rows_of_square_four.nd)) (fun _ _ _ _ _ => (t_one (b_pw (w_and (b_eq rfl (hu64 hr) (EX.o2p (x_call rfl c_row_square (hr.mono (by decide)) takes0 (m_p (x_var 3) m_nil))) (EX.o2p x_int)) (w_and1 (b_eq rfl (hu64 hr) (EX.o2p (x_mod (EX.o2p (x_sum rfl rfl m_sum (x_cons (x_var 3) x_nil))) (EX.o2p x_int))) (EX.o2p x_int))))))) (fun _ _ _ _ _ => (x_varS 3)))
  (s_cons (own := [.o, .s, .s, .s, .s, .s]) (o1 := [.o, .s, .s, .s, .s, .s]) (s_for (own := [.o, .s, .s, .s, .s, .s]) (o1 := [.o, .s, .s, .s, .s, .s]) (passes_of rfl) rfl (i_range1 m_range (x_cons (EX.o2p (x_glob (v := .int 8) (hm := g_SIZE.choose_spec) (r := ⟨_, rfl⟩) (rd := fun _ _ _ => .int 8))) x_nil)) (g_name 1 sc_rows_of_square_four.nd)
 (s_end (on := [.o, .s, .o, .s, .s, .s]) [2] (by decide) (s_cons (own := [.o, .s, .s, .s, .s, .s]) (o1 := [.o, .s, .s, .s, .s, .s]) (s_extend 0 (EX.o2p (x_lc [("number", 5)] rfl sc_rows_of_square_four.nd (by kernel_rfl) (i_seq rfl (x_tup (x_cons (EX.o2s (x_neg (EX.o2p x_int))) (x_cons (EX.o2s x_int) x_nil)))) (fun _ _ _ _ _ => (g_name 5 sc_rows_of_square_four.nd)) (fun _ _ _ _ _ => t_yes) (fun _ _ _ _ _ => (EX.o2s (x_add rfl (EX.o2p (x_add rfl (EX.o2p (x_mul (EX.o2p (x_lst (x_cons (EX.o2s x_int) x_nil))) (x_var 1))) (EX.o2p (x_lst (x_cons (x_varS 5) x_nil))))) (EX.o2p (x_mul (EX.o2p (x_lst (x_cons (EX.o2s x_int) x_nil))) (EX.o2p (x_sub (EX.o2p (x_sub (EX.o2p (x_glob (v := .int 8) (hm := g_SIZE.choose_spec) (r := ⟨_, rfl⟩) (rd := fun _ _ _ => .int 8))) (EX.o2p x_int))) (x_var 1)))))))))))
  (s_cons (own := [.o, .s, .s, .s, .s, .s]) (o1 := [.o, .s, .o, .s, .s, .s]) (s_setLc 2 [("place", 4)] rfl sc_rows_of_square_four.nd (by kernel_rfl) (i_range1 m_range (x_cons (EX.o2p (x_glob (v := .int 8) (hm := g_SIZE.choose_spec) (r := ⟨_, rfl⟩) (rd := fun _ _ _ => .int 8))) x_nil)) (fun _ _ _ _ _ => (g_name 4 sc_rows_of_square_four.nd)) (fun _ _ _ _ _ => t_yes) (fun _ _ _ _ _ => (x_if (b_eq rfl (hu64 hr) (x_var 4) (x_var 1)) (x_tup (x_cons (EX.o2s (x_neg (EX.o2p x_int))) (x_cons (EX.o2s x_int) x_nil))) (x_tup (x_cons (EX.o2s (x_neg (EX.o2p x_int))) (x_cons (EX.o2s x_int) x_nil))))))
  (s_cons (own := [.o, .s, .o, .s, .s, .s]) (o1 := [.o, .s, .o, .s, .s, .s]) (s_extend 0 (EX.o2p (x_lc [("row", 3)] rfl sc_rows_of_square_four.nd (by kernel_rfl) (i_seq rfl (EX.o2p (x_call rfl c_lists_of (hr.mono (by decide)) (takes_of rfl rfl rfl rfl) (m_p (x_var 2) m_nil)))) (fun _ _ _ _ _ => (g_name 3 sc_rows_of_square_four.nd)) (fun _ _ _ _ _ => (t_one (b_eq rfl (hu64 hr) (EX.o2p (x_mod (EX.o2p (x_sum rfl rfl m_sum (x_cons (x_var 3) x_nil))) (EX.o2p x_int))) (EX.o2p x_int)))) (fun _ _ _ _ _ => (x_varS 3)))))
  (s_nil))))))
  (s_cons (own := [.o, .s, .s, .s, .s, .s]) (s_ret (x_sorted rfl (hu66 hr) m_sorted (x_cons (x_var 0) x_nil)))
  (s_nil (own := [.o, .s, .s, .s, .s, .s])))))
theorem ok_rows_with_residues {f : Addr} {fd : FuncData} (F : Fun K "rows_with_residues" "rows_with_residues" s_rows_with_residues f fd) (c_lists_of : Cal P w K mg base cls "lists_of" 1 [true] .o F_lists_of) (c_row_square : Cal P w K mg base cls "row_square" 2 [true] .o F_row_square) (m_sum : mg "sum" = none) (m_range : mg "range" = none) (g_RESIDUES : ∃ p, mg "RESIDUES" = some (.ref p) ∧ gdB K p [(0, .tup [.int 0]), (1, .tup [.int (-3), .int 1]), (2, .tup [.int (-2), .int 2]), (3, .tup [.int (-1), .int 3])] = true) (g_SIZE : ∃ t, mg "SIZE" = some (.int 8 t)) :
    FnOk P w K mg base (L2.CX P w) 3 f fd ["residues"] (spF cls K [true] .o F_rows_with_residues) :=
  fn_sem F sc_rows_with_residues [true] rfl .o B_rows_with_residues fun cdv A outer s H E cf cZ cH s0 r0 hr => (
s_cons (own := [.p, .s, .s, .s, .s, .s]) (o1 := [.p, .o, .s, .s, .s, .s]) (s_setLc 1 [("row", 3)] rfl sc_rows_with_residues.nd (by kernel_rfl) (i_seq rfl (EX.o2p (x_call rfl c_lists_of (hr.mono (by decide)) (takes_of rfl rfl rfl rfl) (m_p (EX.o2p (x_lc [("residue", 4)] rfl sc_rows_with_residues.nd (by kernel_rfl) (i_seq rfl (x_var 0)) (fun _ _ _ _ _ => (g_name 4 sc_rows_with_residues.nd)) (fun _ _ _ _ _ => t_yes) (fun _ _ _ _ _ => (x_gdix rfl g_RESIDUES.choose_spec.1 g_RESIDUES.choose_spec.2 (x_var 4))))) m_nil)))) (fun _ _ _ _ _ => (g_name 3 sc_rows_with_residues.nd)) (fun _ _ _ _ _ => (t_one (b_eq rfl (hu64 hr) (EX.o2p (x_call rfl c_row_square (hr.mono (by decide)) takes0 (m_p (x_var 3) m_nil))) (EX.o2p x_int)))) (fun _ _ _ _ _ => (x_varS 3)))
  (s_cons (own := [.p, .o, .s, .s, .s, .s]) (o1 := [.p, .o, .s, .s, .s, .s]) (s_if (on := [.p, .o, .s, .s, .s, .s]) (b_eq rfl (hu64 hr) (EX.o2p (x_sum rfl rfl m_sum (x_cons (x_var 0) x_nil))) (EX.o2p x_int))
 (s_cons (own := [.p, .o, .s, .s, .s, .s]) (o1 := [.p, .o, .s, .s, .s, .s]) (s_for (own := [.p, .o, .s, .s, .s, .s]) (o1 := [.p, .o, .s, .s, .s, .s]) (passes_of rfl) rfl (i_range1 m_range (x_cons (EX.o2p (x_glob (v := .int 8) (hm := g_SIZE.choose_spec) (r := ⟨_, rfl⟩) (rd := fun _ _ _ => .int 8))) x_nil)) (g_name 2 sc_rows_with_residues.nd)
 (s_cons (own := [.p, .o, .s, .s, .s, .s]) (o1 := [.p, .o, .s, .s, .s, .s]) (s_extend 1 (EX.o2p (x_lc [("number", 5)] rfl sc_rows_with_residues.nd (by kernel_rfl) (i_seq rfl (x_tup (x_cons (EX.o2s (x_neg (EX.o2p x_int))) (x_cons (EX.o2s x_int) x_nil)))) (fun _ _ _ _ _ => (g_name 5 sc_rows_with_residues.nd)) (fun _ _ _ _ _ => t_yes) (fun _ _ _ _ _ => (EX.o2s (x_add rfl (EX.o2p (x_add rfl (EX.o2p (x_mul (EX.o2p (x_lst (x_cons (EX.o2s x_int) x_nil))) (x_var 2))) (EX.o2p (x_lst (x_cons (x_varS 5) x_nil))))) (EX.o2p (x_mul (EX.o2p (x_lst (x_cons (EX.o2s x_int) x_nil))) (EX.o2p (x_sub (EX.o2p (x_sub (EX.o2p (x_glob (v := .int 8) (hm := g_SIZE.choose_spec) (r := ⟨_, rfl⟩) (rd := fun _ _ _ => .int 8))) (EX.o2p x_int))) (x_var 2)))))))))))
  (s_nil)))
  (s_nil))
 (s_nil))
  (s_cons (own := [.p, .o, .s, .s, .s, .s]) (s_retN 1)
  (s_nil (own := [.p, .o, .s, .s, .s, .s])))))
theorem ok_frame_of {f : Addr} {fd : FuncData} (F : Fun K "frame_of" "frame_of" s_frame_of f fd) (c_rows_with_residues : Cal P w K mg base cls "rows_with_residues" 3 [true] .o F_rows_with_residues) (c_is_twice : Cal P w K mg base cls "is_twice" 2 [true] .o F_is_twice) (c_row_less : Cal P w K mg base cls "row_less" 1 [true, true] .o F_row_less) (m_sorted : mg "sorted" = none) :
    FnOk P w K mg base (L2.CX P w) 4 f fd ["row"] (spF cls K [true] .o F_frame_of) :=
  fn_sem F sc_frame_of [true] rfl .o B_frame_of fun cdv A outer s H E cf cZ cH s0 r0 hr => (
s_cons (own := [.p, .s, .s, .s, .s]) (o1 := [.p, .o, .s, .s, .s]) (s_setO 1 sc_frame_of.nd (x_lst x_nil))
  (s_cons (own := [.p, .o, .s, .s, .s]) (o1 := [.p, .o, .s, .s, .s]) (s_for (own := [.p, .o, .s, .s, .s]) (o1 := [.p, .o, .s, .s, .s]) (passes_of rfl) rfl (i_seq rfl (x_tup (x_cons (EX.o2s x_int) (x_cons (EX.o2s x_int) x_nil)))) (g_name 2 sc_frame_of.nd)
 (s_cons (own := [.p, .o, .s, .s, .s]) (o1 := [.p, .o, .s, .s, .s]) (s_extend 1 (EX.o2p (x_call rfl c_rows_with_residues (hr.mono (by decide)) (takes_of rfl rfl rfl rfl) (m_p (EX.o2p (x_lc [("number", 3)] rfl sc_frame_of.nd (by kernel_rfl) (i_seq rfl (x_var 0)) (fun _ _ _ _ _ => (g_name 3 sc_frame_of.nd)) (fun _ _ _ _ _ => t_yes) (fun _ _ _ _ _ => (EX.o2s (x_mod (EX.o2p (x_add rfl (x_var 3) (x_var 2))) (EX.o2p x_int)))))) m_nil))))
  (s_nil)))
  (s_cons (own := [.p, .o, .s, .s, .s]) (s_ret (x_sorted rfl (hu66 hr) m_sorted (x_cons (EX.o2p (x_lc [("other", 4)] rfl sc_frame_of.nd (by kernel_rfl) (i_seq rfl (x_var 1)) (fun _ _ _ _ _ => (g_name 4 sc_frame_of.nd)) (fun _ _ _ _ _ => (t_one (b_tru rfl (EX.o2p (x_call rfl c_is_twice (hr.mono (by decide)) takes0 (m_p (EX.o2p (x_call rfl c_row_less (hr.mono (by decide)) takes0 (m_p (x_var 0) (m_p (x_var 4) m_nil)))) m_nil)))))) (fun _ _ _ _ _ => (x_varS 4)))) x_nil)))
  (s_nil (own := [.p, .o, .s, .s, .s])))))
theorem ok_rest_by_two {f : Addr} {fd : FuncData} (F : Fun K "rest_by_two" "rest_by_two" s_rest_by_two f fd) (c_is_twice : Cal P w K mg base cls "is_twice" 2 [true] .o F_is_twice) (c_all_roots : Cal P w K mg base cls "all_roots" 2 [] .o F_all_roots) (c_row_less : Cal P w K mg base cls "row_less" 1 [true, true] .o F_row_less) (c_frame_of : Cal P w K mg base cls "frame_of" 4 [true] .o F_frame_of) :
    FnOk P w K mg base (L2.CX P w) 5 f fd ["row"] (spF cls K [true] .o F_rest_by_two) :=
  fn_sem F sc_rest_by_two [true] rfl .o B_rest_by_two fun cdv A outer s H E cf cZ cH s0 r0 hr => (
s_cons (own := [.p, .s, .s]) (o1 := [.p, .s, .s]) (s_if (on := [.p, .s, .s]) (b_tru rfl (EX.o2p (x_call rfl c_is_twice (hr.mono (by decide)) (takes_of rfl rfl rfl rfl) (m_p (x_var 0) m_nil))))
 (s_cons (own := [.p, .s, .s]) (s_ret (x_tup (x_cons (EX.o2s x_str) x_nil)))
  (s_nil (own := [.p, .s, .s])))
 (s_nil))
  (s_cons (own := [.p, .s, .s]) (o1 := [.p, .o, .s]) (s_setLc 1 [("root", 2)] rfl sc_rest_by_two.nd (by kernel_rfl) (i_seq rfl (EX.o2p (x_call0 rfl c_all_roots (hr.mono (by decide))))) (fun _ _ _ _ _ => (g_name 2 sc_rest_by_two.nd)) (fun _ _ _ _ _ => (t_one (b_tru rfl (EX.o2p (x_call rfl c_is_twice (hr.mono (by decide)) takes0 (m_p (EX.o2p (x_call rfl c_row_less (hr.mono (by decide)) takes0 (m_p (x_var 0) (m_p (x_var 2) m_nil)))) m_nil)))))) (fun _ _ _ _ _ => (x_varS 2)))
  (s_cons (own := [.p, .o, .s]) (o1 := [.p, .o, .s]) (s_if (on := [.p, .o, .s]) (b_tru rfl (x_var 1))
 (s_cons (own := [.p, .o, .s]) (s_ret (x_tup (x_cons (EX.o2s x_str) (x_cons (x_ix rfl (x_var 1) (EX.o2p (x_neg (EX.o2p x_int)))) x_nil))))
  (s_nil (own := [.p, .o, .s])))
 (s_nil))
  (s_cons (own := [.p, .o, .s]) (s_ret (x_tup (x_cons (EX.o2s x_str) (x_cons (EX.o2s (x_call rfl c_frame_of (hr.mono (by decide)) (takes_of rfl rfl rfl rfl) (m_p (x_var 0) m_nil))) x_nil))))
  (s_nil (own := [.p, .o, .s]))))))
theorem ok_frames {f : Addr} {fd : FuncData} (F : Fun K "frames" "frames" s_frames f fd) (c_base_roots : Cal P w K mg base cls "base_roots" 1 [] .o F_base_roots) (c_rows_of_square_four : Cal P w K mg base cls "rows_of_square_four" 3 [] .o F_rows_of_square_four) (c_row_product : Cal P w K mg base cls "row_product" 1 [true, true] .o F_row_product) (m_tuple : mg "tuple" = none) (m_sorted : mg "sorted" = none) :
    FnOk P w K mg base (L2.CX P w) 4 f fd [] (spF cls K [] .o F_frames) :=
  fn_sem F sc_frames [] rfl .o B_frames fun cdv A outer s H E cf cZ cH s0 r0 hr => (
s_cons (own := [.s, .s, .s, .s, .s]) (o1 := [.s, .s, .s, .s, .s]) (s_setS 0 sc_frames.nd (EX.o2s (x_call0 rfl c_base_roots (hr.mono (by decide)))))
  (s_cons (own := [.s, .s, .s, .s, .s]) (o1 := [.s, .o, .s, .s, .s]) (s_setO 1 sc_frames.nd x_dctT0)
  (s_cons (own := [.s, .o, .s, .s, .s]) (o1 := [.s, .o, .s, .s, .s]) (s_for (own := [.s, .o, .s, .s, .s]) (o1 := [.s, .o, .s, .s, .s]) (passes_of rfl) rfl (i_seq rfl (EX.o2s (x_call0 rfl c_rows_of_square_four (hr.mono (by decide))))) (g_name 2 sc_frames.nd)
 (s_tally (own := [.s, .o, .s, .s, .s]) 1 3 rfl (hu64 hr) sc_frames.nd m_tuple (EX.o2p (x_lc [("root", 4)] rfl sc_frames.nd (by kernel_rfl) (i_seq rfl (x_var 0)) (fun _ _ _ _ _ => (g_name 4 sc_frames.nd)) (fun _ _ _ _ _ => t_yes) (fun _ _ _ _ _ => (EX.o2s (x_mod (EX.o2p (x_call rfl c_row_product (hr.mono (by decide)) takes0 (m_p (x_var 2) (m_p (x_var 4) m_nil)))) (EX.o2p x_int)))))) (x_varS 2)
  (s_nil)))
  (s_cons (own := [.s, .o, .s, .s, .s]) (s_ret (x_sortV rfl rfl (hu66 hr) m_sorted (x_var 1)))
  (s_nil (own := [.s, .o, .s, .s, .s]))))))
theorem ok_count_rests {f : Addr} {fd : FuncData} (F : Fun K "count_rests" "count_rests" s_count_rests f fd) (g_RESTS : ∃ u, mg "RESTS" = some u ∧ repB K u (.tup [.int 1, .int 120, .int 135]) = true) :
    FnOk P w K mg base (L2.CX P w) 1 f fd [] (spF cls K [] .o F_count_rests) :=
  fn_sem F sc_count_rests [] rfl .o B_count_rests fun cdv A outer s H E cf cZ cH s0 r0 hr => (
s_cons (own := []) (s_ret (x_gtup rfl g_RESTS.choose_spec.1 g_RESTS.choose_spec.2))
  (s_nil (own := [])))
theorem ok_sum_by_two {f : Addr} {fd : FuncData} (F : Fun K "sum_by_two" "sum_by_two" s_sum_by_two f fd) (c_row_square : Cal P w K mg base cls "row_square" 2 [true] .o F_row_square) :
    FnOk P w K mg base (L2.CX P w) 3 f fd ["row"] (spF cls K [true] .o F_sum_by_two) :=
  fn_sem F sc_sum_by_two [true] rfl .o B_sum_by_two fun cdv A outer s H E cf cZ cH s0 r0 hr => (
s_cons (own := [.p]) (s_ret (x_mod (EX.o2p (x_div (EX.o2p (x_call rfl c_row_square (hr.mono (by decide)) (takes_of rfl rfl rfl rfl) (m_p (x_var 0) m_nil))) (EX.o2p x_int))) (EX.o2p x_int)))
  (s_nil (own := [.p])))
theorem ok__law_feed {f : Addr} {fd : FuncData} (F : Fun K "_law_feed" "_law_feed" s__law_feed f fd) (m_list : mg "list" = none) : FnOk P w K mg base (L2.CX P w) 1 f fd ["script"] (spFeed K) := by
  refine F.okX sc__law_feed (fun vs H Q E h => ?_) (fun cdv A outer s H vs Q E hr h => ?_)
  · obtain ⟨a, ns, rfl, _⟩ := h
    rfl
  · exact ⟨_, pss_cons (ps_ret (pe_lst (pa_cons (pe_callTy call_list_of (by rfl) m_list (by decide +kernel) (pa_cons (pv 0) pa_nil)) (pa_cons pe_int (pa_cons pe_int (pa_cons pe_int pa_nil)))))) pss_nil, feed_read h⟩

theorem ok__law_draw {f : Addr} {fd : FuncData} (F : Fun K "_law_draw" "_law_draw" s__law_draw f fd) (m_len : mg "len" = none) (m_abs : mg "abs" = none) (m_int : mg "int" = none) :
    FnOk P w K mg base (L2.CX P w) 1 f fd ["feed", "many"] (spF cls K [false, false] .s drawF) := by
  refine F.okX sc__law_draw (fun vs H Q E h => ?_) (fun cdv A outer s H vs Q E hr h => ?_)
  · obtain ⟨f, Z, ds, φ, _, rs, _⟩ := h
    exact rs.lens.1
  · refine ⟨tSeq (tDrawA K) (tDrawB K), pss_cons (ps_if (PW.pt (pw_and (pt_cmpR op_eq (pe_ix ix_list (pv 0) pe_int (fun _ _ => rfl)) pe_int (nomark _)) (pw_and1 (pt_cmpR op_lt (pe_ix ix_list (pv 0) pe_int (fun _ _ => rfl)) (pe_callB call_len_seq (by rfl) m_len PySem.boot_len (pa_cons (pe_ix ix_list (pv 0) pe_int (fun _ _ => rfl)) pa_nil)) (nomark _)))))
        (pss_cons (ps_set (i := 2) sc__law_draw.nd rfl (Or.inl rfl) (pe_callB call_abs (by rfl) m_abs (by decide +kernel) (pa_cons (pe_callTy call_int1 (by rfl) m_int (by decide +kernel) (pa_cons (pe_ix ix_list (pe_ix ix_list (pv 0) pe_int (fun _ _ => rfl)) (pe_ix ix_list (pv 0) pe_int (fun _ _ => rfl)) (fun _ _ => rfl)) pa_nil)) pa_nil)))
        (pss_cons (ps_augS (pv 0) pe_int get_lst pe_int ip_add set_list)
        (pss_one (ps_if (pt_cmpR op_ge (pv 2) (pe_op op_pow pe_int pe_int) (nomark _))
          (pss_one (ps_asg (pv 2) (pg_sub (pv 0) pe_int set_list)))
          (pss_one (ps_asg (pe_op op_mod (pe_callTy call_int1 (by rfl) m_int (by decide +kernel) (pa_cons (pe_op op_add (pe_op op_add (pe_op op_mul (pe_ix ix_list (pv 0) pe_int (fun _ _ => rfl)) pe_int) (pe_op op_mul (pv 2) pe_int)) (pe_ix ix_list (pv 0) pe_int (fun _ _ => rfl))) pa_nil)) pe_int) (pg_sub (pv 0) pe_int set_list)))))))
        pss_nil)
      (pss_cons (ps_if (pt_cmpR op_gt (pe_ix ix_list (pv 0) pe_int (fun _ _ => rfl)) pe_int (nomark _))
        (pss_cons (ps_set (i := 3) sc__law_draw.nd rfl (Or.inl rfl) (pe_op op_mod (pe_callTy call_int1 (by rfl) m_int (by decide +kernel) (pa_cons (pe_ix ix_list (pv 0) pe_int (fun _ _ => rfl)) pa_nil)) (pv 1)))
        (pss_cons (ps_asg (pe_op op_fdiv (pe_ix ix_list (pv 0) pe_int (fun _ _ => rfl)) (pv 1)) (pg_sub (pv 0) pe_int set_list))
        (pss_one (ps_ret (pv 3)))))
        pss_nil)
      (pss_cons (ps_asg (pe_op op_mod (pe_callTy call_int1 (by rfl) m_int (by decide +kernel) (pa_cons (pe_op op_add (pe_op op_mul (pe_ix ix_list (pv 0) pe_int (fun _ _ => rfl)) pe_int) pe_int) pa_nil)) pe_int) (pg_sub (pv 0) pe_int set_list))
      (pss_cons (ps_set (i := 4) sc__law_draw.nd rfl (Or.inl rfl) (pe_op op_mod (pe_callTy call_int1 (by rfl) m_int (by decide +kernel) (pa_cons (pe_op op_add (pe_op op_mul (pe_ix ix_list (pv 0) pe_int (fun _ _ => rfl)) (pe_ix ix_list (pv 0) pe_int (fun _ _ => rfl))) (pe_ix ix_list (pv 0) pe_int (fun _ _ => rfl))) pa_nil)) pe_int))
      (pss_one (ps_ret (pe_op op_mod (pe_op op_fdiv (pv 4) pe_int) (pv 1))))))), draw_read rfl h⟩

theorem ok__law_is_twice {f : Addr} {fd : FuncData} (F : Fun K "_law_is_twice" "_law_is_twice" s__law_is_twice f fd) (m_len : mg "len" = none) (m_int : mg "int" = none) (m_sum : mg "sum" = none) :
    FnOk P w K mg base (L2.CX P w) 1 f fd ["row"] (spF cls K [true] .o F__law_is_twice) :=
  fn_sem F sc__law_is_twice [true] rfl .o B__law_is_twice fun cdv A outer s H E cf cZ cH s0 r0 hr => (
s_cons (own := [.p, .s, .s]) (o1 := [.p, .s, .s]) (s_if (on := [.p, .s, .s]) (b_gtA rfl (hu64 hr) (EX.o2p (x_len rfl m_len (x_cons (EX.o2p (x_lc [("x", 2)] rfl sc__law_is_twice.nd (by kernel_rfl) (i_seq rfl (x_var 0)) (fun _ _ _ _ _ => (g_name 2 sc__law_is_twice.nd)) (fun _ _ _ _ _ => (t_one (b_ne rfl (hu64 hr) (EX.o2p (x_mod (EX.o2p (x_int1 m_int (x_cons (x_var 2) x_nil))) (EX.o2p x_int))) (EX.o2p x_int)))) (fun _ _ _ _ _ => (x_varS 2)))) x_nil))) (EX.o2p x_int))
 (s_cons (own := [.p, .s, .s]) (s_ret x_bl)
  (s_nil (own := [.p, .s, .s])))
 (s_nil))
  (s_cons (own := [.p, .s, .s]) (o1 := [.p, .s, .s]) (s_setS 1 sc__law_is_twice.nd (EX.o2s (x_lc [("x", 2)] rfl sc__law_is_twice.nd (by kernel_rfl) (i_seq rfl (x_var 0)) (fun _ _ _ _ _ => (g_name 2 sc__law_is_twice.nd)) (fun _ _ _ _ _ => t_yes) (fun _ _ _ _ _ => (EX.o2s (x_div (x_var 2) (EX.o2p x_int)))))))
  (s_cons (own := [.p, .s, .s]) (s_ret (x_and (EX.o2p (x_eq rfl (hu64 hr) (EX.o2p (x_len rfl m_len (x_cons (EX.o2p (x_lc [("x", 2)] rfl sc__law_is_twice.nd (by kernel_rfl) (i_seq rfl (x_var 1)) (fun _ _ _ _ _ => (g_name 2 sc__law_is_twice.nd)) (fun _ _ _ _ _ => (t_one (b_ne rfl (hu64 hr) (EX.o2p (x_mod (EX.o2p (x_int1 m_int (x_cons (EX.o2p (x_sub (x_var 2) (EX.s2p (x_ix rfl (x_var 1) (EX.o2p x_int))))) x_nil))) (EX.o2p x_int))) (EX.o2p x_int)))) (fun _ _ _ _ _ => (x_varS 2)))) x_nil))) (EX.o2p x_int))) (x_one (x_eq rfl (hu64 hr) (EX.o2p (x_mod (EX.o2p (x_int1 m_int (x_cons (EX.o2p (x_sum rfl rfl m_sum (x_cons (x_var 1) x_nil))) x_nil))) (EX.o2p x_int))) (EX.o2p x_int)))))
  (s_nil (own := [.p, .s, .s])))))
theorem ok__law_less {f : Addr} {fd : FuncData} (F : Fun K "_law_less" "_law_less" s__law_less f fd) (m_range : mg "range" = none) :
    FnOk P w K mg base (L2.CX P w) 1 f fd ["one", "other", "many"] (spF cls K [true, true, true] .o F__law_less) :=
  fn_sem F sc__law_less [true, true, true] rfl .o B__law_less fun cdv A outer s H E cf cZ cH s0 r0 hr => (
s_cons (own := [.p, .p, .p, .s]) (s_ret (x_lc [("k", 3)] rfl sc__law_less.nd (by kernel_rfl) (i_range1 m_range (x_cons (EX.o2p x_int) x_nil)) (fun _ _ _ _ _ => (g_name 3 sc__law_less.nd)) (fun _ _ _ _ _ => t_yes) (fun _ _ _ _ _ => (EX.o2s (x_sub (EX.s2p (x_ix rfl (x_var 0) (x_var 3))) (EX.o2p (x_mul (x_var 2) (EX.s2p (x_ix rfl (x_var 1) (x_var 3))))))))))
  (s_nil (own := [.p, .p, .p, .s])))
theorem ok__law_same {f : Addr} {fd : FuncData} (F : Fun K "_law_same" "_law_same" s__law_same f fd) (gF : mg "_law_same" = some (.ref f)) (bF : Binds K fd ["actual", "due"] []) (m_isinstance : mg "isinstance" = none) (m_list : mg "list" = none) (m_tuple : mg "tuple" = none) (m_len : mg "len" = none) (m_all : mg "all" = none) (m_range : mg "range" = none) (m_bool : mg "bool" = none) (m_str : mg "str" = none) (m_int : mg "int" = none) : ∀ n : Nat,
    FnOk P w K mg base (L2.CX P w) (1 + n) f fd ["actual", "due"] (spF cls K [true, true] .o (F__law_same n))
  | 0 => fn_bad _
  | n + 1 => fn_sem (k := 1 + n) F sc__law_same [true, true] rfl .o (B__law_same (F__law_same n)) fun cdv A outer s H E cf cZ cH s0 r0 hr => (
    have c__law_same : Cal P w K mg base cls "_law_same" (1 + n) [true, true] .o (F__law_same n) := cal_of gF F.kp bF (ok__law_same F gF bF m_isinstance m_list m_tuple m_len m_all m_range m_bool m_str m_int n)
s_cons (own := [.p, .p, .s]) (o1 := [.p, .p, .s]) (s_if (on := [.p, .p, .s]) (b_pw (w_or (b_tru rfl (x_isi isi_list rfl (x_var 1) m_isinstance m_list (by decide +kernel))) (w_or1 (b_tru rfl (x_isi isi_tuple rfl (x_var 1) m_isinstance m_tuple (by decide +kernel))))))
 (s_cons (own := [.p, .p, .s]) (o1 := [.p, .p, .s]) (s_if (on := [.p, .p, .s]) (b_pw (w_or (b_ne rfl (hu64 hr) (x_isi isi_list rfl (x_var 0) m_isinstance m_list (by decide +kernel)) (x_isi isi_list rfl (x_var 1) m_isinstance m_list (by decide +kernel))) (w_or1 (b_ne rfl (hu64 hr) (x_isi isi_tuple rfl (x_var 0) m_isinstance m_tuple (by decide +kernel)) (x_isi isi_tuple rfl (x_var 1) m_isinstance m_tuple (by decide +kernel))))))
 (s_cons (own := [.p, .p, .s]) (s_ret x_bl)
  (s_nil (own := [.p, .p, .s])))
 (s_nil))
  (s_cons (own := [.p, .p, .s]) (s_ret (x_and (EX.o2p (x_eq rfl (hu64 hr) (EX.o2p (x_len rfl m_len (x_cons (x_var 0) x_nil))) (EX.o2p (x_len rfl m_len (x_cons (x_var 1) x_nil))))) (x_one (x_all rfl rfl m_all (x_cons (EX.o2p (x_lc [("k", 2)] rfl sc__law_same.nd (by kernel_rfl) (i_range1 m_range (x_cons (EX.o2p (x_len rfl m_len (x_cons (x_var 1) x_nil))) x_nil)) (fun _ _ _ _ _ => (g_name 2 sc__law_same.nd)) (fun _ _ _ _ _ => t_yes) (fun _ _ _ _ _ => (EX.o2s (x_call rfl c__law_same hr takes0 (m_p (EX.s2p (x_ix rfl (x_var 0) (x_var 2))) (m_p (EX.s2p (x_ix rfl (x_var 1) (x_var 2))) m_nil))))))) x_nil)))))
  (s_nil (own := [.p, .p, .s]))))
 (s_nil))
  (s_cons (own := [.p, .p, .s]) (o1 := [.p, .p, .s]) (s_if (on := [.p, .p, .s]) (b_pw (w_or (b_is (x_var 1) (EX.o2p x_non)) (w_or1 (b_tru rfl (x_isi isi_bool rfl (x_var 1) m_isinstance m_bool (by decide +kernel))))))
 (s_cons (own := [.p, .p, .s]) (s_ret (x_if (b_is (x_var 1) (EX.o2p x_non)) (x_is (x_var 0) (EX.o2p x_non)) (x_and (x_isi isi_bool rfl (x_var 0) m_isinstance m_bool (by decide +kernel)) (x_one (x_eq rfl (hu64 hr) (x_var 0) (x_var 1))))))
  (s_nil (own := [.p, .p, .s])))
 (s_nil))
  (s_cons (own := [.p, .p, .s]) (o1 := [.p, .p, .s]) (s_if (on := [.p, .p, .s]) (b_tru rfl (x_isi isi_str rfl (x_var 1) m_isinstance m_str (by decide +kernel)))
 (s_cons (own := [.p, .p, .s]) (s_ret (x_and (x_isi isi_str rfl (x_var 0) m_isinstance m_str (by decide +kernel)) (x_one (x_eq rfl (hu64 hr) (x_var 0) (x_var 1)))))
  (s_nil (own := [.p, .p, .s])))
 (s_nil))
  (s_cons (own := [.p, .p, .s]) (s_ret (x_and (x_isi isi_int rfl (x_var 0) m_isinstance m_int (by decide +kernel)) (x_and (x_not (x_isi isi_bool rfl (x_var 0) m_isinstance m_bool (by decide +kernel))) (x_one (x_eq rfl (hu64 hr) (x_var 0) (x_var 1))))))
  (s_nil (own := [.p, .p, .s]))))))
theorem ok__law_times {f : Addr} {fd : FuncData} (F : Fun K "_law_times" "_law_times" s__law_times f fd) (m_sum : mg "sum" = none) (m_range : mg "range" = none) :
    FnOk P w K mg base (L2.CX P w) 1 f fd ["one", "other"] (spF cls K [true, true] .o F__law_times) :=
  fn_sem F sc__law_times [true, true] rfl .o B__law_times fun cdv A outer s H E cf cZ cH s0 r0 hr => (
s_cons (own := [.p, .p, .s]) (s_ret (x_div (EX.o2p (x_sum rfl rfl m_sum (x_cons (EX.o2p (x_lc [("k", 2)] rfl sc__law_times.nd (by kernel_rfl) (i_range1 m_range (x_cons (EX.o2p x_int) x_nil)) (fun _ _ _ _ _ => (g_name 2 sc__law_times.nd)) (fun _ _ _ _ _ => t_yes) (fun _ _ _ _ _ => (EX.o2s (x_mul (EX.s2p (x_ix rfl (x_var 0) (x_var 2))) (EX.s2p (x_ix rfl (x_var 1) (x_var 2)))))))) x_nil))) (EX.o2p x_int)))
  (s_nil (own := [.p, .p, .s])))
theorem ok__law_base {f : Addr} {fd : FuncData} (F : Fun K "_law_base" "_law_base" s__law_base f fd) (m_range : mg "range" = none) :
    FnOk P w K mg base (L2.CX P w) 1 f fd [] (spF cls K [] .o F__law_base) :=
  fn_sem F sc__law_base [] rfl .o B__law_base fun cdv A outer s H E cf cZ cH s0 r0 hr => (
s_cons (own := [.s, .s, .s]) (o1 := [.o, .s, .s]) (s_setO 0 sc__law_base.nd (x_lst (x_cons (EX.o2s (x_lst (x_cons (EX.o2s x_int) (x_cons (EX.o2s (x_neg (EX.o2p x_int))) (x_cons (EX.o2s (x_neg (EX.o2p x_int))) (x_cons (EX.o2s (x_neg (EX.o2p x_int))) (x_cons (EX.o2s (x_neg (EX.o2p x_int))) (x_cons (EX.o2s (x_neg (EX.o2p x_int))) (x_cons (EX.o2s (x_neg (EX.o2p x_int))) (x_cons (EX.o2s x_int) x_nil)))))))))) (x_cons (EX.o2s (x_lst (x_cons (EX.o2s x_int) (x_cons (EX.o2s x_int) (x_cons (EX.o2s x_int) (x_cons (EX.o2s x_int) (x_cons (EX.o2s x_int) (x_cons (EX.o2s x_int) (x_cons (EX.o2s x_int) (x_cons (EX.o2s x_int) x_nil)))))))))) x_nil))))
  (s_cons (own := [.o, .s, .s]) (o1 := [.o, .s, .s]) (s_for (own := [.o, .s, .s]) (o1 := [.o, .s, .s]) (passes_of rfl) rfl (i_range1 m_range (x_cons (EX.o2p x_int) x_nil)) (g_name 1 sc__law_base.nd)
 (s_cons (own := [.o, .s, .s]) (o1 := [.o, .s, .o]) (s_setO 2 sc__law_base.nd (x_mul (EX.o2p (x_lst (x_cons (EX.o2s x_int) x_nil))) (EX.o2p x_int)))
  (s_cons (own := [.o, .s, .o]) (o1 := [.o, .s, .o]) (s_put 2 (EX.o2s (x_neg (EX.o2p x_int))) (x_var 1))
  (s_cons (own := [.o, .s, .o]) (o1 := [.o, .s, .o]) (s_put 2 (EX.o2s x_int) (EX.o2p (x_add rfl (x_var 1) (EX.o2p x_int))))
  (s_frz [2] (by decide) (s_cons (own := [.o, .s, .s]) (o1 := [.o, .s, .s]) (s_append 0 (x_varS 2))
  (s_nil)))))))
  (s_cons (own := [.o, .s, .s]) (s_retN 0)
  (s_nil (own := [.o, .s, .s])))))
theorem ok__law_each {f : Addr} {fd : FuncData} (F : Fun K "_law_each" "_law_each" s__law_each f fd) (m_sorted : mg "sorted" = none) (m_len : mg "len" = none) :
    FnOk P w K mg base (L2.CX P w) 1 f fd ["rows"] (spF cls K [true] .o F__law_each) :=
  fn_sem F sc__law_each [true] rfl .o B__law_each fun cdv A outer s H E cf cZ cH s0 r0 hr => (
s_cons (own := [.p, .s, .s]) (o1 := [.p, .o, .s]) (s_setO 1 sc__law_each.nd (x_lst x_nil))
  (s_cons (own := [.p, .o, .s]) (o1 := [.p, .o, .s]) (s_for (own := [.p, .o, .s]) (o1 := [.p, .o, .s]) (passes_of rfl) rfl (i_seq rfl (EX.o2s (x_sorted rfl (hu66 hr) m_sorted (x_cons (x_var 0) x_nil)))) (g_name 2 sc__law_each.nd)
 (s_cons (own := [.p, .o, .s]) (o1 := [.p, .o, .s]) (s_if (on := [.p, .o, .s]) (b_pw (w_or (b_eq rfl (hu64 hr) (EX.o2p (x_len rfl m_len (x_cons (x_var 1) x_nil))) (EX.o2p x_int)) (w_or1 (b_ne rfl (hu64 hr) (EX.s2p (x_ix rfl (x_var 1) (EX.o2p (x_neg (EX.o2p x_int))))) (x_var 2)))))
 (s_cons (own := [.p, .o, .s]) (o1 := [.p, .o, .s]) (s_append 1 (x_varS 2))
  (s_nil))
 (s_nil))
  (s_nil)))
  (s_cons (own := [.p, .o, .s]) (s_retN 1)
  (s_nil (own := [.p, .o, .s])))))
theorem ok__law_roots {f : Addr} {fd : FuncData} (F : Fun K "_law_roots" "_law_roots" s__law_roots f fd) (m_range : mg "range" = none) (m_int : mg "int" = none) (m_sum : mg "sum" = none) (m_sorted : mg "sorted" = none) :
    FnOk P w K mg base (L2.CX P w) 1 f fd [] (spF cls K [] .o F__law_roots) :=
  fn_sem F sc__law_roots [] rfl .o B__law_roots fun cdv A outer s H E cf cZ cH s0 r0 hr => (
s_cons (own := [.s, .s, .s, .s, .s, .s, .s, .s]) (o1 := [.o, .s, .s, .s, .s, .s, .s, .s]) (s_setO 0 sc__law_roots.nd (x_lst x_nil))
  (s_cons (own := [.o, .s, .s, .s, .s, .s, .s, .s]) (o1 := [.o, .s, .s, .s, .s, .s, .s, .s]) (s_for (own := [.o, .s, .s, .s, .s, .s, .s, .s]) (o1 := [.o, .s, .s, .s, .s, .s, .s, .s]) (passes_of rfl) rfl (i_range1 m_range (x_cons (EX.o2p x_int) x_nil)) (g_name 1 sc__law_roots.nd)
 (s_cons (own := [.o, .s, .s, .s, .s, .s, .s, .s]) (o1 := [.o, .s, .s, .s, .s, .s, .s, .s]) (s_for (own := [.o, .s, .s, .s, .s, .s, .s, .s]) (o1 := [.o, .s, .s, .s, .s, .s, .s, .s]) (passes_of rfl) rfl (i_range2 m_range (x_cons (EX.o2p (x_add rfl (x_var 1) (EX.o2p x_int))) (x_cons (EX.o2p x_int) x_nil))) (g_name 2 sc__law_roots.nd)
 (s_cons (own := [.o, .s, .s, .s, .s, .s, .s, .s]) (o1 := [.o, .s, .s, .s, .s, .s, .s, .s]) (s_for (own := [.o, .s, .s, .s, .s, .s, .s, .s]) (o1 := [.o, .s, .s, .s, .s, .s, .s, .s]) (passes_of rfl) rfl (i_seq rfl (EX.o2s (x_lst (x_cons (EX.o2s (x_neg (EX.o2p x_int))) (x_cons (EX.o2s x_int) x_nil))))) (g_name 3 sc__law_roots.nd)
 (s_cons (own := [.o, .s, .s, .s, .s, .s, .s, .s]) (o1 := [.o, .s, .s, .s, .s, .s, .s, .s]) (s_for (own := [.o, .s, .s, .s, .s, .s, .s, .s]) (o1 := [.o, .s, .s, .s, .s, .s, .s, .s]) (passes_of rfl) rfl (i_seq rfl (EX.o2s (x_lst (x_cons (EX.o2s (x_neg (EX.o2p x_int))) (x_cons (EX.o2s x_int) x_nil))))) (g_name 4 sc__law_roots.nd)
 (s_cons (own := [.o, .s, .s, .s, .s, .s, .s, .s]) (o1 := [.o, .s, .s, .s, .s, .o, .s, .s]) (s_setO 5 sc__law_roots.nd (x_mul (EX.o2p (x_lst (x_cons (EX.o2s x_int) x_nil))) (EX.o2p x_int)))
  (s_cons (own := [.o, .s, .s, .s, .s, .o, .s, .s]) (o1 := [.o, .s, .s, .s, .s, .o, .s, .s]) (s_put 5 (x_varS 3) (x_var 1))
  (s_cons (own := [.o, .s, .s, .s, .s, .o, .s, .s]) (o1 := [.o, .s, .s, .s, .s, .o, .s, .s]) (s_put 5 (x_varS 4) (x_var 2))
  (s_frz [5] (by decide) (s_cons (own := [.o, .s, .s, .s, .s, .s, .s, .s]) (o1 := [.o, .s, .s, .s, .s, .s, .s, .s]) (s_append 0 (x_varS 5))
  (s_nil)))))))
  (s_nil)))
  (s_nil)))
  (s_nil)))
  (s_cons (own := [.o, .s, .s, .s, .s, .s, .s, .s]) (o1 := [.o, .s, .s, .s, .s, .s, .s, .s]) (s_for (own := [.o, .s, .s, .s, .s, .s, .s, .s]) (o1 := [.o, .s, .s, .s, .s, .s, .s, .s]) (passes_of rfl) rfl (i_range1 m_range (x_cons (EX.o2p x_int) x_nil)) (g_name 6 sc__law_roots.nd)
 (s_cons (own := [.o, .s, .s, .s, .s, .s, .s, .s]) (o1 := [.o, .s, .s, .s, .s, .o, .s, .s]) (s_setLc 5 [("k", 7)] rfl sc__law_roots.nd (by kernel_rfl) (i_range1 m_range (x_cons (EX.o2p x_int) x_nil)) (fun _ _ _ _ _ => (g_name 7 sc__law_roots.nd)) (fun _ _ _ _ _ => t_yes) (fun _ _ _ _ _ => (EX.o2s (x_sub (EX.o2p x_int) (EX.o2p (x_mul (EX.o2p x_int) (EX.o2p (x_band (EX.o2p (x_shr (x_var 6) (x_var 7))) (EX.o2p x_int)))))))))
  (s_cons (own := [.o, .s, .s, .s, .s, .o, .s, .s]) (o1 := [.o, .s, .s, .s, .s, .s, .s, .s]) (s_if (on := [.o, .s, .s, .s, .s, .s, .s, .s]) (b_eq rfl (hu64 hr) (EX.o2p (x_mod (EX.o2p (x_int1 m_int (x_cons (EX.o2p (x_sum rfl rfl m_sum (x_cons (x_var 5) x_nil))) x_nil))) (EX.o2p x_int))) (EX.o2p x_int))
 (s_frz [5] (by decide) (s_cons (own := [.o, .s, .s, .s, .s, .s, .s, .s]) (o1 := [.o, .s, .s, .s, .s, .s, .s, .s]) (s_append 0 (x_varS 5))
  (s_nil)))
 (s_end (on := [.o, .s, .s, .s, .s, .o, .s, .s]) [5] (by decide) (s_nil)))
  (s_nil))))
  (s_cons (own := [.o, .s, .s, .s, .s, .s, .s, .s]) (s_ret (x_sorted rfl (hu66 hr) m_sorted (x_cons (x_var 0) x_nil)))
  (s_nil (own := [.o, .s, .s, .s, .s, .s, .s, .s]))))))
theorem ok__law_row {f : Addr} {fd : FuncData} (F : Fun K "_law_row" "_law_row" s__law_row f fd) (c__law_draw : Cal P w K mg base cls "_law_draw" 1 [false, false] .s F__law_draw) (c__law_less : Cal P w K mg base cls "_law_less" 1 [true, true, true] .o F__law_less) (m_range : mg "range" = none) :
    FnOk P w K mg base (L2.CX P w) 2 f fd ["feed", "roots", "most"] (spF cls K [false, true, true] .o F__law_row) :=
  fn_sem F sc__law_row [false, true, true] rfl .o B__law_row fun cdv A outer s H E cf cZ cH s0 r0 hr => (
s_cons (own := [.s, .p, .p, .s, .s]) (o1 := [.s, .p, .p, .o, .s]) (s_setO 3 sc__law_row.nd (x_mul (EX.o2p (x_lst (x_cons (EX.o2s x_int) x_nil))) (EX.o2p x_int)))
  (s_cons (own := [.s, .p, .p, .o, .s]) (o1 := [.s, .p, .p, .o, .s]) (s_for (own := [.s, .p, .p, .o, .s]) (o1 := [.s, .p, .p, .o, .s]) (passes_of rfl) rfl (i_range1 m_range (x_cons (EX.s2p (x_call rfl c__law_draw (hr.mono (by decide)) (takes_of rfl rfl rfl rfl) (m_s (x_varS 0) (m_s (EX.o2s (x_add rfl (x_var 2) (EX.o2p x_int))) m_nil)))) x_nil)) (g_name 4 sc__law_row.nd)
 (s_cons (own := [.s, .p, .p, .o, .s]) (o1 := [.s, .p, .p, .o, .s]) (s_setO 3 sc__law_row.nd (x_call rfl c__law_less (hr.mono (by decide)) (takes_of rfl rfl rfl rfl) (m_p (x_var 3) (m_p (EX.s2p (x_ix rfl (x_var 1) (EX.s2p (x_call rfl c__law_draw (hr.mono (by decide)) (takes_of rfl rfl rfl rfl) (m_s (x_varS 0) (m_s (EX.o2s x_int) m_nil)))))) (m_p (EX.o2p (x_neg (EX.o2p x_int))) m_nil)))))
  (s_nil)))
  (s_cons (own := [.s, .p, .p, .o, .s]) (s_retN 3)
  (s_nil (own := [.s, .p, .p, .o, .s])))))
theorem ok__law_fours {f : Addr} {fd : FuncData} (F : Fun K "_law_fours" "_law_fours" s__law_fours f fd) (m_range : mg "range" = none) (m_len : mg "len" = none) (m_int : mg "int" = none) (m_sum : mg "sum" = none) (m_sorted : mg "sorted" = none) :
    FnOk P w K mg base (L2.CX P w) 1 f fd [] (spF cls K [] .o F__law_fours) :=
  fn_sem F sc__law_fours [] rfl .o B__law_fours fun cdv A outer s H E cf cZ cH s0 r0 hr => (
s_cons (own := [.s, .s, .s, .s, .s, .s, .s, .s, .s]) (o1 := [.o, .s, .s, .s, .s, .s, .s, .s, .s]) (s_setO 0 sc__law_fours.nd (x_lst x_nil))
  (s_cons (own := [.o, .s, .s, .s, .s, .s, .s, .s, .s]) (o1 := [.o, .s, .s, .s, .s, .s, .s, .s, .s]) (s_for (own := [.o, .s, .s, .s, .s, .s, .s, .s, .s]) (o1 := [.o, .s, .s, .s, .s, .s, .s, .s, .s]) (passes_of rfl) rfl (i_range1 m_range (x_cons (EX.o2p x_int) x_nil)) (g_name 1 sc__law_fours.nd)
 (s_end (on := [.o, .s, .o, .s, .s, .s, .s, .o, .s]) [2, 7] (by decide) (s_cons (own := [.o, .s, .s, .s, .s, .s, .s, .s, .s]) (o1 := [.o, .s, .o, .s, .s, .s, .s, .s, .s]) (s_setLc 2 [("k", 8)] rfl sc__law_fours.nd (by kernel_rfl) (i_range1 m_range (x_cons (EX.o2p x_int) x_nil)) (fun _ _ _ _ _ => (g_name 8 sc__law_fours.nd)) (fun _ _ _ _ _ => (t_one (b_eq rfl (hu64 hr) (EX.o2p (x_band (EX.o2p (x_shr (x_var 1) (x_var 8))) (EX.o2p x_int))) (EX.o2p x_int)))) (fun _ _ _ _ _ => (x_varS 8)))
  (s_cons (own := [.o, .s, .o, .s, .s, .s, .s, .s, .s]) (o1 := [.o, .s, .o, .s, .s, .s, .s, .s, .s]) (s_if (on := [.o, .s, .o, .s, .s, .s, .s, .s, .s]) (b_eq rfl (hu64 hr) (EX.o2p (x_len rfl m_len (x_cons (x_var 2) x_nil))) (EX.o2p x_int))
 (s_cons (own := [.o, .s, .o, .s, .s, .s, .s, .s, .s]) (o1 := [.o, .s, .o, .s, .s, .s, .s, .s, .s]) (s_for (own := [.o, .s, .o, .s, .s, .s, .s, .s, .s]) (o1 := [.o, .s, .o, .s, .s, .s, .s, .s, .s]) (passes_of rfl) rfl (i_range1 m_range (x_cons (EX.o2p x_int) x_nil)) (g_name 3 sc__law_fours.nd)
 (s_cons (own := [.o, .s, .o, .s, .s, .s, .s, .s, .s]) (o1 := [.o, .s, .o, .s, .o, .s, .s, .s, .s]) (s_setO 4 sc__law_fours.nd (x_mul (EX.o2p (x_lst (x_cons (EX.o2s x_int) x_nil))) (EX.o2p x_int)))
  (s_cons (own := [.o, .s, .o, .s, .o, .s, .s, .s, .s]) (o1 := [.o, .s, .o, .s, .o, .s, .s, .s, .s]) (s_for (own := [.o, .s, .o, .s, .o, .s, .s, .s, .s]) (o1 := [.o, .s, .o, .s, .o, .s, .s, .s, .s]) (passes_of rfl) rfl (i_range1 m_range (x_cons (EX.o2p x_int) x_nil)) (g_name 5 sc__law_fours.nd)
 (s_cons (own := [.o, .s, .o, .s, .o, .s, .s, .s, .s]) (o1 := [.o, .s, .o, .s, .o, .s, .s, .s, .s]) (s_setS 6 sc__law_fours.nd (x_ix rfl (x_var 2) (x_var 5)))
  (s_cons (own := [.o, .s, .o, .s, .o, .s, .s, .s, .s]) (o1 := [.o, .s, .o, .s, .o, .s, .s, .s, .s]) (s_put 4 (EX.o2s (x_sub (EX.o2p x_int) (EX.o2p (x_mul (EX.o2p x_int) (EX.o2p (x_band (EX.o2p (x_shr (x_var 3) (x_var 5))) (EX.o2p x_int))))))) (x_var 6))
  (s_nil))))
  (s_frz [4] (by decide) (s_cons (own := [.o, .s, .o, .s, .s, .s, .s, .s, .s]) (o1 := [.o, .s, .o, .s, .s, .s, .s, .s, .s]) (s_append 0 (x_varS 4))
  (s_nil))))))
  (s_nil))
 (s_nil))
  (s_cons (own := [.o, .s, .o, .s, .s, .s, .s, .s, .s]) (o1 := [.o, .s, .o, .s, .s, .s, .s, .o, .s]) (s_setLc 7 [("k", 8)] rfl sc__law_fours.nd (by kernel_rfl) (i_range1 m_range (x_cons (EX.o2p x_int) x_nil)) (fun _ _ _ _ _ => (g_name 8 sc__law_fours.nd)) (fun _ _ _ _ _ => t_yes) (fun _ _ _ _ _ => (EX.o2s (x_sub (EX.o2p x_int) (EX.o2p (x_mul (EX.o2p x_int) (EX.o2p (x_band (EX.o2p (x_shr (x_var 1) (x_var 8))) (EX.o2p x_int)))))))))
  (s_cons (own := [.o, .s, .o, .s, .s, .s, .s, .o, .s]) (o1 := [.o, .s, .o, .s, .s, .s, .s, .o, .s]) (s_for (own := [.o, .s, .o, .s, .s, .s, .s, .o, .s]) (o1 := [.o, .s, .o, .s, .s, .s, .s, .o, .s]) (passes_of rfl) rfl (i_range1 m_range (x_cons (EX.o2p x_int) x_nil)) (g_name 6 sc__law_fours.nd)
 (s_cons (own := [.o, .s, .o, .s, .s, .s, .s, .o, .s]) (o1 := [.o, .s, .o, .s, .o, .s, .s, .o, .s]) (s_setO 4 sc__law_fours.nd (x_add rfl (EX.o2p (x_add rfl (EX.o2p (x_sl rfl (x_var 7) o_none (o_some (x_var 6)))) (EX.o2p (x_lst (x_cons (EX.o2s (x_mul (EX.o2p x_int) (EX.s2p (x_ix rfl (x_var 7) (x_var 6))))) x_nil))))) (EX.o2p (x_sl rfl (x_var 7) (o_some (EX.o2p (x_add rfl (x_var 6) (EX.o2p x_int)))) o_none))))
  (s_cons (own := [.o, .s, .o, .s, .o, .s, .s, .o, .s]) (o1 := [.o, .s, .o, .s, .s, .s, .s, .o, .s]) (s_if (on := [.o, .s, .o, .s, .s, .s, .s, .o, .s]) (b_eq rfl (hu64 hr) (EX.o2p (x_mod (EX.o2p (x_int1 m_int (x_cons (EX.o2p (x_sum rfl rfl m_sum (x_cons (x_var 4) x_nil))) x_nil))) (EX.o2p x_int))) (EX.o2p x_int))
 (s_frz [4] (by decide) (s_cons (own := [.o, .s, .o, .s, .s, .s, .s, .o, .s]) (o1 := [.o, .s, .o, .s, .s, .s, .s, .o, .s]) (s_append 0 (x_varS 4))
  (s_nil)))
 (s_end (on := [.o, .s, .o, .s, .o, .s, .s, .o, .s]) [4] (by decide) (s_nil)))
  (s_nil))))
  (s_nil)))))))
  (s_cons (own := [.o, .s, .s, .s, .s, .s, .s, .s, .s]) (o1 := [.o, .s, .s, .s, .s, .s, .s, .s, .s]) (s_for (own := [.o, .s, .s, .s, .s, .s, .s, .s, .s]) (o1 := [.o, .s, .s, .s, .s, .s, .s, .s, .s]) (passes_of rfl) rfl (i_range1 m_range (x_cons (EX.o2p x_int) x_nil)) (g_name 6 sc__law_fours.nd)
 (s_cons (own := [.o, .s, .s, .s, .s, .s, .s, .s, .s]) (o1 := [.o, .s, .s, .s, .s, .s, .s, .s, .s]) (s_append 0 (EX.o2s (x_lc [("k", 8)] rfl sc__law_fours.nd (by kernel_rfl) (i_range1 m_range (x_cons (EX.o2p x_int) x_nil)) (fun _ _ _ _ _ => (g_name 8 sc__law_fours.nd)) (fun _ _ _ _ _ => t_yes) (fun _ _ _ _ _ => (EX.o2s (x_mul (EX.o2p x_int) (EX.o2p (x_int1 m_int (x_cons (EX.o2p (x_eq rfl (hu64 hr) (x_var 8) (x_var 6))) x_nil)))))))))
  (s_cons (own := [.o, .s, .s, .s, .s, .s, .s, .s, .s]) (o1 := [.o, .s, .s, .s, .s, .s, .s, .s, .s]) (s_append 0 (EX.o2s (x_lc [("k", 8)] rfl sc__law_fours.nd (by kernel_rfl) (i_range1 m_range (x_cons (EX.o2p x_int) x_nil)) (fun _ _ _ _ _ => (g_name 8 sc__law_fours.nd)) (fun _ _ _ _ _ => t_yes) (fun _ _ _ _ _ => (EX.o2s (x_sub (EX.o2p x_int) (EX.o2p (x_mul (EX.o2p x_int) (EX.o2p (x_int1 m_int (x_cons (EX.o2p (x_eq rfl (hu64 hr) (x_var 8) (x_var 6))) x_nil)))))))))))
  (s_nil))))
  (s_cons (own := [.o, .s, .s, .s, .s, .s, .s, .s, .s]) (s_ret (x_sorted rfl (hu66 hr) m_sorted (x_cons (x_var 0) x_nil)))
  (s_nil (own := [.o, .s, .s, .s, .s, .s, .s, .s, .s]))))))
theorem ok__law_due {f : Addr} {fd : FuncData} (F : Fun K "_law_due" "_law_due" s__law_due f fd) (c__law_is_twice : Cal P w K mg base cls "_law_is_twice" 1 [true] .o F__law_is_twice) (c__law_less : Cal P w K mg base cls "_law_less" 1 [true, true, true] .o F__law_less) (m_len : mg "len" = none) :
    FnOk P w K mg base (L2.CX P w) 2 f fd ["every", "fours", "row"] (spF cls K [true, true, true] .o F__law_due) :=
  fn_sem F sc__law_due [true, true, true] rfl .o B__law_due fun cdv A outer s H E cf cZ cH s0 r0 hr => (
s_cons (own := [.p, .p, .p, .s, .s, .s]) (o1 := [.p, .p, .p, .s, .s, .s]) (s_if (on := [.p, .p, .p, .s, .s, .s]) (b_tru rfl (EX.o2p (x_call rfl c__law_is_twice (hr.mono (by decide)) (takes_of rfl rfl rfl rfl) (m_p (x_var 2) m_nil))))
 (s_cons (own := [.p, .p, .p, .s, .s, .s]) (s_ret (x_tup (x_cons (EX.o2s x_str) x_nil)))
  (s_nil (own := [.p, .p, .p, .s, .s, .s])))
 (s_nil))
  (s_cons (own := [.p, .p, .p, .s, .s, .s]) (o1 := [.p, .p, .p, .o, .s, .s]) (s_setLc 3 [("root", 4)] rfl sc__law_due.nd (by kernel_rfl) (i_seq rfl (x_var 0)) (fun _ _ _ _ _ => (g_name 4 sc__law_due.nd)) (fun _ _ _ _ _ => (t_one (b_tru rfl (EX.o2p (x_call rfl c__law_is_twice (hr.mono (by decide)) takes0 (m_p (EX.o2p (x_call rfl c__law_less (hr.mono (by decide)) takes0 (m_p (x_var 2) (m_p (x_var 4) (m_p (EX.o2p x_int) m_nil))))) m_nil)))))) (fun _ _ _ _ _ => (x_varS 4)))
  (s_cons (own := [.p, .p, .p, .o, .s, .s]) (o1 := [.p, .p, .p, .o, .s, .s]) (s_if (on := [.p, .p, .p, .o, .s, .s]) (b_gtA rfl (hu64 hr) (EX.o2p (x_len rfl m_len (x_cons (x_var 3) x_nil))) (EX.o2p x_int))
 (s_cons (own := [.p, .p, .p, .o, .s, .s]) (s_ret (x_tup (x_cons (EX.o2s x_str) (x_cons (x_ix rfl (x_var 3) (EX.o2p (x_neg (EX.o2p x_int)))) x_nil))))
  (s_nil (own := [.p, .p, .p, .o, .s, .s])))
 (s_nil))
  (s_cons (own := [.p, .p, .p, .o, .s, .s]) (s_ret (x_tup (x_cons (EX.o2s x_str) (x_cons (EX.o2s (x_lc [("own", 5)] rfl sc__law_due.nd (by kernel_rfl) (i_seq rfl (x_var 1)) (fun _ _ _ _ _ => (g_name 5 sc__law_due.nd)) (fun _ _ _ _ _ => (t_one (b_tru rfl (EX.o2p (x_call rfl c__law_is_twice (hr.mono (by decide)) takes0 (m_p (EX.o2p (x_call rfl c__law_less (hr.mono (by decide)) takes0 (m_p (x_var 2) (m_p (x_var 5) (m_p (EX.o2p x_int) m_nil))))) m_nil)))))) (fun _ _ _ _ _ => (x_varS 5)))) x_nil))))
  (s_nil (own := [.p, .p, .p, .o, .s, .s]))))))
theorem ok__law_right {f : Addr} {fd : FuncData} (F : Fun K "_law_right" "_law_right" s__law_right f fd) (c__law_due : Cal P w K mg base cls "_law_due" 2 [true, true, true] .o F__law_due) (c_rest_by_two : Cal P w K mg base cls "rest_by_two" 5 [true] .o F_rest_by_two) (c__law_same : Cal P w K mg base cls "_law_same" 9 [true, true] .o (F__law_same 8)) (c__law_times : Cal P w K mg base cls "_law_times" 1 [true, true] .o F__law_times) (c_sum_by_two : Cal P w K mg base cls "sum_by_two" 3 [true] .o F_sum_by_two) (m_list : mg "list" = none) (m_int : mg "int" = none) (m_len : mg "len" = none) :
    FnOk P w K mg base (L2.CX P w) 10 f fd ["every", "fours", "row"] (spF cls K [true, true, true] .o F__law_right) :=
  fn_sem F sc__law_right [true, true, true] rfl .o B__law_right fun cdv A outer s H E cf cZ cH s0 r0 hr => (
s_cons (own := [.p, .p, .p, .s, .s, .s, .s, .s, .s]) (o1 := [.p, .p, .p, .o, .s, .s, .s, .s, .s]) (s_setO 3 sc__law_right.nd (x_list rfl m_list (x_cons (x_var 2) x_nil)))
  (s_cons (own := [.p, .p, .p, .o, .s, .s, .s, .s, .s]) (o1 := [.p, .p, .p, .o, .s, .s, .s, .s, .s]) (s_setS 4 sc__law_right.nd (EX.o2s (x_call rfl c__law_due (hr.mono (by decide)) (takes_of rfl rfl rfl rfl) (m_p (x_var 0) (m_p (x_var 1) (m_p (x_var 2) m_nil))))))
  (jt_enter (own := [.p, .p, .p, .o, .s, .s, .s, .s, .s]) 5 3 rfl sc__law_right.nd c_rest_by_two (hr.mono (by decide)) (takes_of rfl rfl rfl rfl)
  (jt_if (own := [.p, .p, .p, .o, .s, .s, .s, .s, .s]) (o1 := [.p, .p, .p, .o, .s, .s, .s, .s, .s]) rfl (b_pw (w_or (b_not (b_tru rfl (EX.o2p (x_call rfl c__law_same (hr.mono (by decide)) takes0 (m_p (x_var 5) (m_p (x_var 4) m_nil)))))) (w_or1 (b_ne rfl (hu64 hr) (x_var 3) (x_var 2)))))
 (s_cons (own := [.p, .p, .p, .o, .s, .s, .s, .s, .s]) (s_ret x_bl)
  (s_nil (own := [.p, .p, .p, .o, .s, .s, .s, .s, .s])))
  (jt_set (own := [.p, .p, .p, .o, .s, .s, .s, .s, .s]) (o1 := [.p, .p, .p, .o, .s, .s, .s, .s, .s]) 6 (r_set 6 sc__law_right.nd (EX.o2s (x_mod (EX.o2p (x_int1 m_int (x_cons (EX.o2p (x_div (EX.o2p (x_call rfl c__law_times (hr.mono (by decide)) (takes_of rfl rfl rfl rfl) (m_p (x_var 2) (m_p (x_var 2) m_nil)))) (EX.o2p x_int))) x_nil))) (EX.o2p x_int)))) (by decide) (.inr ⟨rfl, rfl⟩)
  (jt_if (own := [.p, .p, .p, .o, .s, .s, .s, .s, .s]) (o1 := [.p, .p, .p, .o, .s, .s, .s, .s, .s]) rfl (b_pw (w_or (b_not (b_tru rfl (EX.o2p (x_call rfl c__law_same (hr.mono (by decide)) takes0 (m_p (EX.o2p (x_call rfl c_sum_by_two (hr.mono (by decide)) takes0 (m_p (x_var 3) m_nil))) (m_p (x_var 6) m_nil)))))) (w_or1 (b_ne rfl (hu64 hr) (x_var 6) (EX.o2p (x_int1 m_int (x_cons (EX.o2p (x_eq rfl (hu64 hr) (EX.s2p (x_ix rfl (x_var 4) (EX.o2p x_int))) (EX.o2p x_str))) x_nil)))))))
 (s_cons (own := [.p, .p, .p, .o, .s, .s, .s, .s, .s]) (s_ret x_bl)
  (s_nil (own := [.p, .p, .p, .o, .s, .s, .s, .s, .s])))
  (jt_ifP (own := [.p, .p, .p, .o, .s, .s, .s, .s, .s]) rfl (b_eq rfl (hu64 hr) (EX.s2p (x_ix rfl (x_var 4) (EX.o2p x_int))) (EX.o2p x_str))
 (jt_set (own := [.p, .p, .p, .o, .s, .s, .s, .s, .s]) (o1 := [.p, .p, .p, .o, .s, .s, .s, .s, .s]) 7 (r_set 7 sc__law_right.nd (x_ix rfl (x_var 4) (EX.o2p x_int))) (by decide) (.inr ⟨rfl, rfl⟩)
  (jt_if (own := [.p, .p, .p, .o, .s, .s, .s, .s, .s]) (o1 := [.p, .p, .p, .o, .s, .s, .s, .s, .s]) rfl (b_pw (w_or (b_ne rfl (hu64 hr) (EX.o2p (x_len rfl m_len (x_cons (x_var 7) x_nil))) (EX.o2p x_int)) (w_or1 (b_gtA rfl (hu64 hr) (EX.o2p (x_len rfl m_len (x_cons (EX.o2p (x_lc [("own", 8)] rfl sc__law_right.nd (by kernel_rfl) (i_seq rfl (x_var 7)) (fun _ _ _ _ _ => (g_name 8 sc__law_right.nd)) (fun _ _ _ _ _ => (t_one (b_notin rfl (hu65 hr) (EX.o2p (x_call rfl c__law_times (hr.mono (by decide)) takes0 (m_p (x_var 8) (m_p (EX.s2p (x_ix rfl (x_var 7) (EX.o2p x_int))) m_nil)))) (EX.o2p (x_lst (x_cons (EX.o2s x_int) (x_cons (EX.o2s x_int) (x_cons (EX.o2s (x_neg (EX.o2p x_int))) x_nil)))))))) (fun _ _ _ _ _ => (x_varS 8)))) x_nil))) (EX.o2p x_int)))))
 (s_cons (own := [.p, .p, .p, .o, .s, .s, .s, .s, .s]) (s_ret x_bl)
  (s_nil (own := [.p, .p, .p, .o, .s, .s, .s, .s, .s])))
  (jt_poke (own := [.p, .p, .p, .o, .s, .s, .s, .s, .s]) 5 1 (EX.o2s (x_lst x_nil)) (hK := rfl))))
  (jt_ifP (own := [.p, .p, .p, .o, .s, .s, .s, .s, .s]) rfl (b_eq rfl (hu64 hr) (EX.s2p (x_ix rfl (x_var 4) (EX.o2p x_int))) (EX.o2p x_str))
 (jt_poke (own := [.p, .p, .p, .o, .s, .s, .s, .s, .s]) 5 1 (EX.o2s x_int) (hK := rfl))
  (jt_end (own := [.p, .p, .p, .o, .s, .s, .s, .s, .s]) (s_cons (own := [.p, .p, .p, .o, .s, .s, .s, .s, .s]) (s_ret (x_call rfl c__law_same (hr.mono (by decide)) (takes_of rfl rfl rfl rfl) (m_p (EX.o2p (x_call rfl c_rest_by_two (hr.mono (by decide)) (takes_of rfl rfl rfl rfl) (m_p (x_var 3) m_nil))) (m_p (x_var 4) m_nil))))
  (s_nil (own := [.p, .p, .p, .o, .s, .s, .s, .s, .s]))))))))))))
theorem ok__law_frames_right {f : Addr} {fd : FuncData} (F : Fun K "_law_frames_right" "_law_frames_right" s__law_frames_right f fd) (c__law_base : Cal P w K mg base cls "_law_base" 1 [] .o F__law_base) (c_frames : Cal P w K mg base cls "frames" 4 [] .o F_frames) (c__law_same : Cal P w K mg base cls "_law_same" 9 [true, true] .o (F__law_same 8)) (c__law_times : Cal P w K mg base cls "_law_times" 1 [true, true] .o F__law_times) (c__law_is_twice : Cal P w K mg base cls "_law_is_twice" 1 [true] .o F__law_is_twice) (c__law_less : Cal P w K mg base cls "_law_less" 1 [true, true, true] .o F__law_less) (c__law_each : Cal P w K mg base cls "_law_each" 1 [true] .o F__law_each) (m_isinstance : mg "isinstance" = none) (m_list : mg "list" = none) (m_len : mg "len" = none) (m_sorted : mg "sorted" = none) (m_int : mg "int" = none) :
    FnOk P w K mg base (L2.CX P w) 10 f fd ["fours"] (spF cls K [true] .o F__law_frames_right) :=
  fn_sem F sc__law_frames_right [true] rfl .o B__law_frames_right fun cdv A outer s H E cf cZ cH s0 r0 hr => (
s_cons (own := [.p, .s, .s, .s, .s, .s, .s, .s]) (o1 := [.p, .s, .s, .s, .s, .s, .s, .s]) (s_setS 1 sc__law_frames_right.nd (EX.o2s (x_call0 rfl c__law_base (hr.mono (by decide)))))
  (s_cons (own := [.p, .s, .s, .s, .s, .s, .s, .s]) (o1 := [.p, .s, .s, .s, .s, .s, .s, .s]) (s_setS 2 sc__law_frames_right.nd (EX.o2s (x_call0 rfl c_frames (hr.mono (by decide)))))
  (s_cons (own := [.p, .s, .s, .s, .s, .s, .s, .s]) (o1 := [.p, .s, .s, .s, .s, .s, .s, .s]) (s_if (on := [.p, .s, .s, .s, .s, .s, .s, .s]) (b_pw (w_or (b_not (b_tru rfl (x_isi isi_list rfl (x_var 2) m_isinstance m_list (by decide +kernel)))) (w_or1 (b_ne rfl (hu64 hr) (EX.o2p (x_len rfl m_len (x_cons (x_var 2) x_nil))) (EX.o2p x_int)))))
 (s_cons (own := [.p, .s, .s, .s, .s, .s, .s, .s]) (s_ret x_bl)
  (s_nil (own := [.p, .s, .s, .s, .s, .s, .s, .s])))
 (s_nil))
  (s_cons (own := [.p, .s, .s, .s, .s, .s, .s, .s]) (o1 := [.p, .s, .s, .s, .s, .s, .s, .s]) (s_setS 3 sc__law_frames_right.nd (EX.o2s (x_lst x_nil)))
  (s_cons (own := [.p, .s, .s, .s, .s, .s, .s, .s]) (o1 := [.p, .s, .s, .s, .o, .s, .s, .s]) (s_setO 4 sc__law_frames_right.nd (x_lst x_nil))
  (s_cons (own := [.p, .s, .s, .s, .o, .s, .s, .s]) (o1 := [.p, .s, .s, .s, .o, .s, .s, .s]) (s_for (own := [.p, .s, .s, .s, .o, .s, .s, .s]) (o1 := [.p, .s, .s, .s, .o, .s, .s, .s]) (passes_of rfl) rfl (i_seq rfl (x_varS 2)) (g_name 5 sc__law_frames_right.nd)
 (s_cons (own := [.p, .s, .s, .s, .o, .s, .s, .s]) (o1 := [.p, .s, .s, .s, .o, .s, .s, .s]) (s_if (on := [.p, .s, .s, .s, .o, .s, .s, .s]) (b_pw (w_or (b_not (b_tru rfl (x_isi isi_list rfl (x_var 5) m_isinstance m_list (by decide +kernel)))) (w_or (b_ne rfl (hu64 hr) (EX.o2p (x_len rfl m_len (x_cons (x_var 5) x_nil))) (EX.o2p x_int)) (w_or1 (b_not (b_tru rfl (EX.o2p (x_call rfl c__law_same (hr.mono (by decide)) (takes_of rfl rfl rfl rfl) (m_p (x_var 5) (m_p (EX.o2p (x_sorted rfl (hu66 hr) m_sorted (x_cons (x_var 5) x_nil))) m_nil))))))))))
 (s_cons (own := [.p, .s, .s, .s, .o, .s, .s, .s]) (s_ret x_bl)
  (s_nil (own := [.p, .s, .s, .s, .o, .s, .s, .s])))
 (s_nil))
  (s_cons (own := [.p, .s, .s, .s, .o, .s, .s, .s]) (o1 := [.p, .s, .s, .s, .o, .s, .s, .s]) (s_setS 3 sc__law_frames_right.nd (EX.o2s (x_add rfl (x_var 3) (x_var 5))))
  (s_cons (own := [.p, .s, .s, .s, .o, .s, .s, .s]) (o1 := [.p, .s, .s, .s, .o, .s, .s, .s]) (s_append 4 (EX.o2s (x_lc [("root", 7)] rfl sc__law_frames_right.nd (by kernel_rfl) (i_seq rfl (x_var 1)) (fun _ _ _ _ _ => (g_name 7 sc__law_frames_right.nd)) (fun _ _ _ _ _ => t_yes) (fun _ _ _ _ _ => (EX.o2s (x_mod (EX.o2p (x_int1 m_int (x_cons (EX.o2p (x_call rfl c__law_times (hr.mono (by decide)) takes0 (m_p (x_var 7) (m_p (EX.s2p (x_ix rfl (x_var 5) (EX.o2p x_int))) m_nil)))) x_nil))) (EX.o2p x_int)))))))
  (s_cons (own := [.p, .s, .s, .s, .o, .s, .s, .s]) (o1 := [.p, .s, .s, .s, .o, .s, .s, .s]) (s_for (own := [.p, .s, .s, .s, .o, .s, .s, .s]) (o1 := [.p, .s, .s, .s, .o, .s, .s, .s]) (passes_of rfl) rfl (i_seq rfl (x_varS 5)) (g_name 6 sc__law_frames_right.nd)
 (s_cons (own := [.p, .s, .s, .s, .o, .s, .s, .s]) (o1 := [.p, .s, .s, .s, .o, .s, .s, .s]) (s_if (on := [.p, .s, .s, .s, .o, .s, .s, .s]) (b_pw (w_or (b_not (b_tru rfl (EX.o2p (x_call rfl c__law_is_twice (hr.mono (by decide)) (takes_of rfl rfl rfl rfl) (m_p (EX.o2p (x_call rfl c__law_less (hr.mono (by decide)) (takes_of rfl rfl rfl rfl) (m_p (x_var 6) (m_p (EX.s2p (x_ix rfl (x_var 5) (EX.o2p x_int))) (m_p (EX.o2p x_int) m_nil))))) m_nil))))) (w_or1 (b_notin rfl (hu65 hr) (EX.o2p (x_call rfl c__law_times (hr.mono (by decide)) (takes_of rfl rfl rfl rfl) (m_p (x_var 6) (m_p (EX.s2p (x_ix rfl (x_var 5) (EX.o2p x_int))) m_nil)))) (EX.o2p (x_lst (x_cons (EX.o2s x_int) (x_cons (EX.o2s x_int) (x_cons (EX.o2s (x_neg (EX.o2p x_int))) x_nil)))))))))
 (s_cons (own := [.p, .s, .s, .s, .o, .s, .s, .s]) (s_ret x_bl)
  (s_nil (own := [.p, .s, .s, .s, .o, .s, .s, .s])))
 (s_nil))
  (s_nil)))
  (s_nil))))))
  (s_cons (own := [.p, .s, .s, .s, .o, .s, .s, .s]) (s_ret (x_and (EX.o2p (x_eq rfl (hu64 hr) (EX.o2p (x_sorted rfl (hu66 hr) m_sorted (x_cons (x_var 3) x_nil))) (x_var 0))) (x_and (EX.o2p (x_eq rfl (hu64 hr) (x_var 2) (EX.o2p (x_sorted rfl (hu66 hr) m_sorted (x_cons (x_var 2) x_nil))))) (x_one (x_eq rfl (hu64 hr) (EX.o2p (x_len rfl m_len (x_cons (EX.o2p (x_call rfl c__law_each (hr.mono (by decide)) (takes_of rfl rfl rfl rfl) (m_p (x_var 4) m_nil))) x_nil))) (EX.o2p x_int))))))
  (s_nil (own := [.p, .s, .s, .s, .o, .s, .s, .s])))))))))
theorem ok_law {f ff : Addr} {fd fdf : FuncData} (F : Fun K "law" "law" s_law f fd) (FF : Fun K "_law_feed" "_law_feed" s__law_feed ff fdf) (gF : mg "_law_feed" = some (.ref ff)) (bF : Binds K fdf ["script"] []) (m_list : mg "list" = none) (c__law_roots : Cal P w K mg base cls "_law_roots" 1 [] .o F__law_roots) (c__law_fours : Cal P w K mg base cls "_law_fours" 1 [] .o F__law_fours) (c__law_row : Cal P w K mg base cls "_law_row" 2 [false, true, true] .o F__law_row) (c__law_draw : Cal P w K mg base cls "_law_draw" 1 [false, false] .s F__law_draw) (c__law_less : Cal P w K mg base cls "_law_less" 1 [true, true, true] .o F__law_less) (c__law_right : Cal P w K mg base cls "_law_right" 10 [true, true, true] .o F__law_right) (c__law_same : Cal P w K mg base cls "_law_same" 9 [true, true] .o (F__law_same 8)) (c_count_rests : Cal P w K mg base cls "count_rests" 1 [] .o F_count_rests) (c__law_frames_right : Cal P w K mg base cls "_law_frames_right" 10 [true] .o F__law_frames_right) (c_rest_by_two : Cal P w K mg base cls "rest_by_two" 5 [true] .o F_rest_by_two) (m_len : mg "len" = none)
    (hB : ∀ φ : Fd, φ.Ok → ∃ φ', B_law ((List.replicate 9 none).set 1 (some .feed)) φ = .rt (.bl true) φ') :
    FnOk P w K mg base (L2.CX P w) 11 f fd ["script"] (spLaw K) :=
  law_sem (cls := cls) (j := 1) F sc_law .s B_law rfl (by decide) (by decide) (fun cdv A outer s H E hr => ps_set (i := 1) sc_law.nd rfl (Or.inl rfl) (pe_call (ok__law_feed FF m_list) (hr.mono (by decide)) (by rfl) gF FF.kp bF .nil passL (pa_cons (pv 0) pa_nil)))
   (fun cdv A outer s H E cf cZ cH s0 r0 hr => (
s_cons (own := [.s, .s, .s, .s, .s, .s, .s, .s, .s]) (o1 := [.s, .s, .s, .s, .s, .s, .s, .s, .s]) (s_setS 2 sc_law.nd (EX.o2s (x_call0 rfl c__law_roots (hr.mono (by decide)))))
  (s_cons (own := [.s, .s, .s, .s, .s, .s, .s, .s, .s]) (o1 := [.s, .s, .s, .s, .s, .s, .s, .s, .s]) (s_setS 3 sc_law.nd (EX.o2s (x_call0 rfl c__law_fours (hr.mono (by decide)))))
  (s_cons (own := [.s, .s, .s, .s, .s, .s, .s, .s, .s]) (o1 := [.s, .s, .s, .s, .s, .s, .s, .s, .s]) (s_if (on := [.s, .s, .s, .s, .s, .s, .s, .s, .s]) (b_ne rfl (hu64 hr) (EX.o2p (x_len rfl m_len (x_cons (x_var 3) x_nil))) (EX.o2p x_int))
 (s_cons (own := [.s, .s, .s, .s, .s, .s, .s, .s, .s]) (s_ret (EX.o2s x_bl))
  (s_nil (own := [.s, .s, .s, .s, .s, .s, .s, .s, .s])))
 (s_nil))
  (s_cons (own := [.s, .s, .s, .s, .s, .s, .s, .s, .s]) (o1 := [.s, .s, .s, .s, .s, .s, .s, .s, .s]) (s_setS 4 sc_law.nd (EX.o2s (x_call rfl c__law_row (hr.mono (by decide)) (takes_of rfl rfl rfl rfl) (m_s (x_varS 1) (m_p (x_var 2) (m_p (EX.o2p x_int) m_nil))))))
  (s_cons (own := [.s, .s, .s, .s, .s, .s, .s, .s, .s]) (o1 := [.s, .s, .s, .s, .s, .s, .s, .s, .s]) (s_setS 5 sc_law.nd (EX.o2s (x_call rfl c__law_row (hr.mono (by decide)) (takes_of rfl rfl rfl rfl) (m_s (x_varS 1) (m_p (x_var 2) (m_p (EX.o2p x_int) m_nil))))))
  (s_cons (own := [.s, .s, .s, .s, .s, .s, .s, .s, .s]) (o1 := [.s, .s, .s, .s, .s, .s, .s, .s, .s]) (s_setS 6 sc_law.nd (x_ix rfl (x_var 3) (EX.s2p (x_call rfl c__law_draw (hr.mono (by decide)) (takes_of rfl rfl rfl rfl) (m_s (x_varS 1) (m_s (EX.o2s x_int) m_nil))))))
  (s_cons (own := [.s, .s, .s, .s, .s, .s, .s, .s, .s]) (o1 := [.s, .s, .s, .s, .s, .s, .s, .s, .s]) (s_for (own := [.s, .s, .s, .s, .s, .s, .s, .s, .s]) (o1 := [.s, .s, .s, .s, .s, .s, .s, .s, .s]) (passes_of rfl) rfl (i_seq rfl (EX.o2s (x_lst (x_cons (x_varS 4) (x_cons (EX.o2s (x_lc [("x", 8)] rfl sc_law.nd (by kernel_rfl) (i_seq rfl (x_var 5)) (fun _ _ _ _ _ => (g_name 8 sc_law.nd)) (fun _ _ _ _ _ => t_yes) (fun _ _ _ _ _ => (EX.o2s (x_mul (EX.o2p x_int) (x_var 8)))))) (x_cons (x_ix rfl (x_var 2) (EX.s2p (x_call rfl c__law_draw (hr.mono (by decide)) (takes_of rfl rfl rfl rfl) (m_s (x_varS 1) (m_s (EX.o2s x_int) m_nil))))) (x_cons (EX.o2s (x_call rfl c__law_less (hr.mono (by decide)) (takes_of rfl rfl rfl rfl) (m_p (x_var 6) (m_p (x_var 5) (m_p (EX.o2p x_int) m_nil))))) x_nil))))))) (g_name 7 sc_law.nd)
 (s_cons (own := [.s, .s, .s, .s, .s, .s, .s, .s, .s]) (o1 := [.s, .s, .s, .s, .s, .s, .s, .s, .s]) (s_if (on := [.s, .s, .s, .s, .s, .s, .s, .s, .s]) (b_not (b_tru rfl (EX.o2p (x_call rfl c__law_right (hr.mono (by decide)) (takes_of rfl rfl rfl rfl) (m_p (x_var 2) (m_p (x_var 3) (m_p (x_var 7) m_nil)))))))
 (s_cons (own := [.s, .s, .s, .s, .s, .s, .s, .s, .s]) (s_ret (EX.o2s x_bl))
  (s_nil (own := [.s, .s, .s, .s, .s, .s, .s, .s, .s])))
 (s_nil))
  (s_nil)))
  (s_cons (own := [.s, .s, .s, .s, .s, .s, .s, .s, .s]) (o1 := [.s, .s, .s, .s, .s, .s, .s, .s, .s]) (s_if (on := [.s, .s, .s, .s, .s, .s, .s, .s, .s]) (b_not (b_tru rfl (EX.o2p (x_call rfl c__law_same (hr.mono (by decide)) (takes_of rfl rfl rfl rfl) (m_p (EX.o2p (x_call0 rfl c_count_rests (hr.mono (by decide)))) (m_p (x_tup (x_cons (EX.o2s x_int) (x_cons (EX.o2s x_int) (x_cons (EX.o2s x_int) x_nil)))) m_nil))))))
 (s_cons (own := [.s, .s, .s, .s, .s, .s, .s, .s, .s]) (s_ret (EX.o2s x_bl))
  (s_nil (own := [.s, .s, .s, .s, .s, .s, .s, .s, .s])))
 (s_nil))
  (s_cons (own := [.s, .s, .s, .s, .s, .s, .s, .s, .s]) (o1 := [.s, .s, .s, .s, .s, .s, .s, .s, .s]) (s_if (on := [.s, .s, .s, .s, .s, .s, .s, .s, .s]) (b_pw (w_and (b_eq rfl (hu64 hr) (EX.s2p (x_call rfl c__law_draw (hr.mono (by decide)) (takes_of rfl rfl rfl rfl) (m_s (x_varS 1) (m_s (EX.o2s x_int) m_nil)))) (EX.o2p x_int)) (w_and1 (b_not (b_tru rfl (EX.o2p (x_call rfl c__law_frames_right (hr.mono (by decide)) (takes_of rfl rfl rfl rfl) (m_p (x_var 3) m_nil))))))))
 (s_cons (own := [.s, .s, .s, .s, .s, .s, .s, .s, .s]) (s_ret (EX.o2s x_bl))
  (s_nil (own := [.s, .s, .s, .s, .s, .s, .s, .s, .s])))
 (s_nil))
  (s_cons (own := [.s, .s, .s, .s, .s, .s, .s, .s, .s]) (o1 := [.s, .s, .s, .s, .s, .s, .s, .s, .s]) (s_if (on := [.s, .s, .s, .s, .s, .s, .s, .s, .s]) (b_not (b_tru rfl (EX.o2p (x_call rfl c__law_same (hr.mono (by decide)) (takes_of rfl rfl rfl rfl) (m_p (EX.o2p (x_sl rfl (EX.s2p (x_ix rfl (EX.o2p (x_call rfl c_rest_by_two (hr.mono (by decide)) (takes_of rfl rfl rfl rfl) (m_p (EX.o2p (x_lst (x_cons (EX.o2s x_int) (x_cons (EX.o2s x_int) (x_cons (EX.o2s x_int) (x_cons (EX.o2s x_int) (x_cons (EX.o2s x_int) (x_cons (EX.o2s x_int) (x_cons (EX.o2s x_int) (x_cons (EX.o2s x_int) x_nil)))))))))) m_nil))) (EX.o2p x_int))) o_none (o_some (EX.o2p x_int)))) (m_p (EX.o2p (x_lst (x_cons (EX.o2s (x_lst (x_cons (EX.o2s (x_neg (EX.o2p x_int))) (x_cons (EX.o2s x_int) (x_cons (EX.o2s x_int) (x_cons (EX.o2s x_int) (x_cons (EX.o2s x_int) (x_cons (EX.o2s x_int) (x_cons (EX.o2s x_int) (x_cons (EX.o2s x_int) x_nil)))))))))) x_nil))) m_nil))))))
 (s_cons (own := [.s, .s, .s, .s, .s, .s, .s, .s, .s]) (s_ret (EX.o2s x_bl))
  (s_nil (own := [.s, .s, .s, .s, .s, .s, .s, .s, .s])))
 (s_nil))
  (s_cons (own := [.s, .s, .s, .s, .s, .s, .s, .s, .s]) (s_ret (EX.o2s (x_call rfl c__law_same (hr.mono (by decide)) (takes_of rfl rfl rfl rfl) (m_p (EX.o2p (x_lst (x_cons (EX.o2s (x_call rfl c_rest_by_two (hr.mono (by decide)) (takes_of rfl rfl rfl rfl) (m_p (EX.o2p (x_mul (EX.o2p (x_lst (x_cons (EX.o2s x_int) x_nil))) (EX.o2p x_int))) m_nil))) (x_cons (EX.o2s (x_call rfl c_rest_by_two (hr.mono (by decide)) (takes_of rfl rfl rfl rfl) (m_p (EX.o2p (x_mul (EX.o2p (x_lst (x_cons (EX.o2s (x_neg (EX.o2p x_int))) x_nil))) (EX.o2p x_int))) m_nil))) x_nil)))) (m_p (EX.o2p (x_lst (x_cons (x_tup (x_cons (EX.o2s x_str) x_nil)) (x_cons (x_tup (x_cons (EX.o2s x_str) (x_cons (EX.o2s (x_mul (EX.o2p (x_lst (x_cons (EX.o2s x_int) x_nil))) (EX.o2p x_int))) x_nil))) x_nil)))) m_nil)))))
  (s_nil (own := [.s, .s, .s, .s, .s, .s, .s, .s, .s])))))))))))))) hB
end
theorem all_mk {l : PySem.W.OpenLaw} {w : World} {K : PySem.W.Frag} {h : Heap} {mg : Str → Option Value} {fa : Addr} (X : K.In h) (G : h.Ns mainGlobals mg) (hfa : mg "law" = some (.ref fa))
    {f0 f1 f2 f3 f4 f5 f6 f7 f8 f9 f10 f11 f12 f13 f14 f15 f16 f17 f18 f19 f20 f21 f22 f23 f24 f25 f26 f27 f28 f29 f30 f31 : Addr} {od0 an0 od1 an1 od2 an2 od3 an3 od4 an4 od5 an5 od6 an6 od7 an7 od8 an8 od9 an9 od10 an10 od11 an11 od12 an12 od13 an13 od14 an14 od15 an15 od16 an16 od17 an17 od18 an18 od19 an19 od20 an20 od21 an21 od22 an22 od23 an23 od24 an24 od25 an25 od26 an26 od27 an27 od28 an28 od29 an29 od30 an30 od31 an31 : Option Addr} {sl0 sl1 sl2 sl3 sl4 sl5 sl6 sl7 sl8 sl9 sl10 sl11 sl12 sl13 sl14 sl15 sl16 sl17 sl18 sl19 sl20 sl21 sl22 sl23 sl24 sl25 sl26 sl27 sl28 sl29 sl30 sl31 : Array (Option Value)} {oc0 kV0 dc0 pm0 cd0 ct0 oc1 kV1 dc1 pm1 cd1 ct1 oc2 kV2 dc2 pm2 cd2 ct2 oc3 kV3 dc3 pm3 cd3 ct3 oc4 kV4 dc4 pm4 cd4 ct4 oc5 kV5 dc5 pm5 cd5 ct5 oc6 kV6 dc6 pm6 cd6 ct6 oc7 kV7 dc7 pm7 cd7 ct7 oc8 kV8 dc8 pm8 cd8 ct8 oc9 kV9 dc9 pm9 cd9 ct9 oc10 kV10 dc10 pm10 cd10 ct10 oc11 kV11 dc11 pm11 cd11 ct11 oc12 kV12 dc12 pm12 cd12 ct12 oc13 kV13 dc13 pm13 cd13 ct13 oc14 kV14 dc14 pm14 cd14 ct14 oc15 kV15 dc15 pm15 cd15 ct15 oc16 kV16 dc16 pm16 cd16 ct16 oc17 kV17 dc17 pm17 cd17 ct17 oc18 kV18 dc18 pm18 cd18 ct18 oc19 kV19 dc19 pm19 cd19 ct19 oc20 kV20 dc20 pm20 cd20 ct20 oc21 kV21 dc21 pm21 cd21 ct21 oc22 kV22 dc22 pm22 cd22 ct22 oc23 kV23 dc23 pm23 cd23 ct23 oc24 kV24 dc24 pm24 cd24 ct24 oc25 kV25 dc25 pm25 cd25 ct25 oc26 kV26 dc26 pm26 cd26 ct26 oc27 kV27 dc27 pm27 cd27 ct27 oc28 kV28 dc28 pm28 cd28 ct28 oc29 kV29 dc29 pm29 cd29 ct29 oc30 kV30 dc30 pm30 cd30 ct30 oc31 kV31 dc31 pm31 cd31 ct31 : Value}
    (a0 : PySem.W.nsIn K mainGlobals "fault_of_kind" = some (some (.ref f0))) (l0 : K.lookup f0 = some ⟨oc0, od0, .func (PySem.W.fnOf "fault_of_kind" "fault_of_kind" (defArgs s_fault_of_kind) (defBody s_fault_of_kind) (defScope s_fault_of_kind) .none kV0 dc0 pm0 an0 cd0 ct0), sl0⟩) (c0 : PySem.W.codeIn K cd0 "fault_of_kind" = true) (k0 : PySem.W.keepIn K (.ref f0) = true)
    (a1 : PySem.W.nsIn K mainGlobals "row_product" = some (some (.ref f1))) (l1 : K.lookup f1 = some ⟨oc1, od1, .func (PySem.W.fnOf "row_product" "row_product" (defArgs s_row_product) (defBody s_row_product) (defScope s_row_product) .none kV1 dc1 pm1 an1 cd1 ct1), sl1⟩) (c1 : PySem.W.codeIn K cd1 "row_product" = true) (k1 : PySem.W.keepIn K (.ref f1) = true)
    (a2 : PySem.W.nsIn K mainGlobals "row_square" = some (some (.ref f2))) (l2 : K.lookup f2 = some ⟨oc2, od2, .func (PySem.W.fnOf "row_square" "row_square" (defArgs s_row_square) (defBody s_row_square) (defScope s_row_square) .none kV2 dc2 pm2 an2 cd2 ct2), sl2⟩) (c2 : PySem.W.codeIn K cd2 "row_square" = true) (k2 : PySem.W.keepIn K (.ref f2) = true)
    (a3 : PySem.W.nsIn K mainGlobals "row_less" = some (some (.ref f3))) (l3 : K.lookup f3 = some ⟨oc3, od3, .func (PySem.W.fnOf "row_less" "row_less" (defArgs s_row_less) (defBody s_row_less) (defScope s_row_less) .none kV3 dc3 pm3 an3 cd3 ct3), sl3⟩) (c3 : PySem.W.codeIn K cd3 "row_less" = true) (k3 : PySem.W.keepIn K (.ref f3) = true)
    (a4 : PySem.W.nsIn K mainGlobals "even_roots" = some (some (.ref f4))) (l4 : K.lookup f4 = some ⟨oc4, od4, .func (PySem.W.fnOf "even_roots" "even_roots" (defArgs s_even_roots) (defBody s_even_roots) (defScope s_even_roots) .none kV4 dc4 pm4 an4 cd4 ct4), sl4⟩) (c4 : PySem.W.codeIn K cd4 "even_roots" = true) (k4 : PySem.W.keepIn K (.ref f4) = true)
    (a5 : PySem.W.nsIn K mainGlobals "odd_roots" = some (some (.ref f5))) (l5 : K.lookup f5 = some ⟨oc5, od5, .func (PySem.W.fnOf "odd_roots" "odd_roots" (defArgs s_odd_roots) (defBody s_odd_roots) (defScope s_odd_roots) .none kV5 dc5 pm5 an5 cd5 ct5), sl5⟩) (c5 : PySem.W.codeIn K cd5 "odd_roots" = true) (k5 : PySem.W.keepIn K (.ref f5) = true)
    (a6 : PySem.W.nsIn K mainGlobals "all_roots" = some (some (.ref f6))) (l6 : K.lookup f6 = some ⟨oc6, od6, .func (PySem.W.fnOf "all_roots" "all_roots" (defArgs s_all_roots) (defBody s_all_roots) (defScope s_all_roots) .none kV6 dc6 pm6 an6 cd6 ct6), sl6⟩) (c6 : PySem.W.codeIn K cd6 "all_roots" = true) (k6 : PySem.W.keepIn K (.ref f6) = true)
    (a7 : PySem.W.nsIn K mainGlobals "base_roots" = some (some (.ref f7))) (l7 : K.lookup f7 = some ⟨oc7, od7, .func (PySem.W.fnOf "base_roots" "base_roots" (defArgs s_base_roots) (defBody s_base_roots) (defScope s_base_roots) .none kV7 dc7 pm7 an7 cd7 ct7), sl7⟩) (c7 : PySem.W.codeIn K cd7 "base_roots" = true) (k7 : PySem.W.keepIn K (.ref f7) = true)
    (a8 : PySem.W.nsIn K mainGlobals "is_twice" = some (some (.ref f8))) (l8 : K.lookup f8 = some ⟨oc8, od8, .func (PySem.W.fnOf "is_twice" "is_twice" (defArgs s_is_twice) (defBody s_is_twice) (defScope s_is_twice) .none kV8 dc8 pm8 an8 cd8 ct8), sl8⟩) (c8 : PySem.W.codeIn K cd8 "is_twice" = true) (k8 : PySem.W.keepIn K (.ref f8) = true)
    (a9 : PySem.W.nsIn K mainGlobals "lists_of" = some (some (.ref f9))) (l9 : K.lookup f9 = some ⟨oc9, od9, .func (PySem.W.fnOf "lists_of" "lists_of" (defArgs s_lists_of) (defBody s_lists_of) (defScope s_lists_of) .none kV9 dc9 pm9 an9 cd9 ct9), sl9⟩) (c9 : PySem.W.codeIn K cd9 "lists_of" = true) (k9 : PySem.W.keepIn K (.ref f9) = true)
    (a10 : PySem.W.nsIn K mainGlobals "rows_of_square_four" = some (some (.ref f10))) (l10 : K.lookup f10 = some ⟨oc10, od10, .func (PySem.W.fnOf "rows_of_square_four" "rows_of_square_four" (defArgs s_rows_of_square_four) (defBody s_rows_of_square_four) (defScope s_rows_of_square_four) .none kV10 dc10 pm10 an10 cd10 ct10), sl10⟩) (c10 : PySem.W.codeIn K cd10 "rows_of_square_four" = true) (k10 : PySem.W.keepIn K (.ref f10) = true)
    (a11 : PySem.W.nsIn K mainGlobals "rows_with_residues" = some (some (.ref f11))) (l11 : K.lookup f11 = some ⟨oc11, od11, .func (PySem.W.fnOf "rows_with_residues" "rows_with_residues" (defArgs s_rows_with_residues) (defBody s_rows_with_residues) (defScope s_rows_with_residues) .none kV11 dc11 pm11 an11 cd11 ct11), sl11⟩) (c11 : PySem.W.codeIn K cd11 "rows_with_residues" = true) (k11 : PySem.W.keepIn K (.ref f11) = true)
    (a12 : PySem.W.nsIn K mainGlobals "frame_of" = some (some (.ref f12))) (l12 : K.lookup f12 = some ⟨oc12, od12, .func (PySem.W.fnOf "frame_of" "frame_of" (defArgs s_frame_of) (defBody s_frame_of) (defScope s_frame_of) .none kV12 dc12 pm12 an12 cd12 ct12), sl12⟩) (c12 : PySem.W.codeIn K cd12 "frame_of" = true) (k12 : PySem.W.keepIn K (.ref f12) = true)
    (a13 : PySem.W.nsIn K mainGlobals "rest_by_two" = some (some (.ref f13))) (l13 : K.lookup f13 = some ⟨oc13, od13, .func (PySem.W.fnOf "rest_by_two" "rest_by_two" (defArgs s_rest_by_two) (defBody s_rest_by_two) (defScope s_rest_by_two) .none kV13 dc13 pm13 an13 cd13 ct13), sl13⟩) (c13 : PySem.W.codeIn K cd13 "rest_by_two" = true) (k13 : PySem.W.keepIn K (.ref f13) = true)
    (a14 : PySem.W.nsIn K mainGlobals "frames" = some (some (.ref f14))) (l14 : K.lookup f14 = some ⟨oc14, od14, .func (PySem.W.fnOf "frames" "frames" (defArgs s_frames) (defBody s_frames) (defScope s_frames) .none kV14 dc14 pm14 an14 cd14 ct14), sl14⟩) (c14 : PySem.W.codeIn K cd14 "frames" = true) (k14 : PySem.W.keepIn K (.ref f14) = true)
    (a15 : PySem.W.nsIn K mainGlobals "count_rests" = some (some (.ref f15))) (l15 : K.lookup f15 = some ⟨oc15, od15, .func (PySem.W.fnOf "count_rests" "count_rests" (defArgs s_count_rests) (defBody s_count_rests) (defScope s_count_rests) .none kV15 dc15 pm15 an15 cd15 ct15), sl15⟩) (c15 : PySem.W.codeIn K cd15 "count_rests" = true) (k15 : PySem.W.keepIn K (.ref f15) = true)
    (a16 : PySem.W.nsIn K mainGlobals "sum_by_two" = some (some (.ref f16))) (l16 : K.lookup f16 = some ⟨oc16, od16, .func (PySem.W.fnOf "sum_by_two" "sum_by_two" (defArgs s_sum_by_two) (defBody s_sum_by_two) (defScope s_sum_by_two) .none kV16 dc16 pm16 an16 cd16 ct16), sl16⟩) (c16 : PySem.W.codeIn K cd16 "sum_by_two" = true) (k16 : PySem.W.keepIn K (.ref f16) = true)
    (a17 : PySem.W.nsIn K mainGlobals "_law_feed" = some (some (.ref f17))) (l17 : K.lookup f17 = some ⟨oc17, od17, .func (PySem.W.fnOf "_law_feed" "_law_feed" (defArgs s__law_feed) (defBody s__law_feed) (defScope s__law_feed) .none kV17 dc17 pm17 an17 cd17 ct17), sl17⟩) (c17 : PySem.W.codeIn K cd17 "_law_feed" = true) (k17 : PySem.W.keepIn K (.ref f17) = true)
    (a18 : PySem.W.nsIn K mainGlobals "_law_draw" = some (some (.ref f18))) (l18 : K.lookup f18 = some ⟨oc18, od18, .func (PySem.W.fnOf "_law_draw" "_law_draw" (defArgs s__law_draw) (defBody s__law_draw) (defScope s__law_draw) .none kV18 dc18 pm18 an18 cd18 ct18), sl18⟩) (c18 : PySem.W.codeIn K cd18 "_law_draw" = true) (k18 : PySem.W.keepIn K (.ref f18) = true)
    (a19 : PySem.W.nsIn K mainGlobals "_law_is_twice" = some (some (.ref f19))) (l19 : K.lookup f19 = some ⟨oc19, od19, .func (PySem.W.fnOf "_law_is_twice" "_law_is_twice" (defArgs s__law_is_twice) (defBody s__law_is_twice) (defScope s__law_is_twice) .none kV19 dc19 pm19 an19 cd19 ct19), sl19⟩) (c19 : PySem.W.codeIn K cd19 "_law_is_twice" = true) (k19 : PySem.W.keepIn K (.ref f19) = true)
    (a20 : PySem.W.nsIn K mainGlobals "_law_less" = some (some (.ref f20))) (l20 : K.lookup f20 = some ⟨oc20, od20, .func (PySem.W.fnOf "_law_less" "_law_less" (defArgs s__law_less) (defBody s__law_less) (defScope s__law_less) .none kV20 dc20 pm20 an20 cd20 ct20), sl20⟩) (c20 : PySem.W.codeIn K cd20 "_law_less" = true) (k20 : PySem.W.keepIn K (.ref f20) = true)
    (a21 : PySem.W.nsIn K mainGlobals "_law_same" = some (some (.ref f21))) (l21 : K.lookup f21 = some ⟨oc21, od21, .func (PySem.W.fnOf "_law_same" "_law_same" (defArgs s__law_same) (defBody s__law_same) (defScope s__law_same) .none kV21 dc21 pm21 an21 cd21 ct21), sl21⟩) (c21 : PySem.W.codeIn K cd21 "_law_same" = true) (k21 : PySem.W.keepIn K (.ref f21) = true)
    (a22 : PySem.W.nsIn K mainGlobals "_law_times" = some (some (.ref f22))) (l22 : K.lookup f22 = some ⟨oc22, od22, .func (PySem.W.fnOf "_law_times" "_law_times" (defArgs s__law_times) (defBody s__law_times) (defScope s__law_times) .none kV22 dc22 pm22 an22 cd22 ct22), sl22⟩) (c22 : PySem.W.codeIn K cd22 "_law_times" = true) (k22 : PySem.W.keepIn K (.ref f22) = true)
    (a23 : PySem.W.nsIn K mainGlobals "_law_base" = some (some (.ref f23))) (l23 : K.lookup f23 = some ⟨oc23, od23, .func (PySem.W.fnOf "_law_base" "_law_base" (defArgs s__law_base) (defBody s__law_base) (defScope s__law_base) .none kV23 dc23 pm23 an23 cd23 ct23), sl23⟩) (c23 : PySem.W.codeIn K cd23 "_law_base" = true) (k23 : PySem.W.keepIn K (.ref f23) = true)
    (a24 : PySem.W.nsIn K mainGlobals "_law_each" = some (some (.ref f24))) (l24 : K.lookup f24 = some ⟨oc24, od24, .func (PySem.W.fnOf "_law_each" "_law_each" (defArgs s__law_each) (defBody s__law_each) (defScope s__law_each) .none kV24 dc24 pm24 an24 cd24 ct24), sl24⟩) (c24 : PySem.W.codeIn K cd24 "_law_each" = true) (k24 : PySem.W.keepIn K (.ref f24) = true)
    (a25 : PySem.W.nsIn K mainGlobals "_law_roots" = some (some (.ref f25))) (l25 : K.lookup f25 = some ⟨oc25, od25, .func (PySem.W.fnOf "_law_roots" "_law_roots" (defArgs s__law_roots) (defBody s__law_roots) (defScope s__law_roots) .none kV25 dc25 pm25 an25 cd25 ct25), sl25⟩) (c25 : PySem.W.codeIn K cd25 "_law_roots" = true) (k25 : PySem.W.keepIn K (.ref f25) = true)
    (a26 : PySem.W.nsIn K mainGlobals "_law_row" = some (some (.ref f26))) (l26 : K.lookup f26 = some ⟨oc26, od26, .func (PySem.W.fnOf "_law_row" "_law_row" (defArgs s__law_row) (defBody s__law_row) (defScope s__law_row) .none kV26 dc26 pm26 an26 cd26 ct26), sl26⟩) (c26 : PySem.W.codeIn K cd26 "_law_row" = true) (k26 : PySem.W.keepIn K (.ref f26) = true)
    (a27 : PySem.W.nsIn K mainGlobals "_law_fours" = some (some (.ref f27))) (l27 : K.lookup f27 = some ⟨oc27, od27, .func (PySem.W.fnOf "_law_fours" "_law_fours" (defArgs s__law_fours) (defBody s__law_fours) (defScope s__law_fours) .none kV27 dc27 pm27 an27 cd27 ct27), sl27⟩) (c27 : PySem.W.codeIn K cd27 "_law_fours" = true) (k27 : PySem.W.keepIn K (.ref f27) = true)
    (a28 : PySem.W.nsIn K mainGlobals "_law_due" = some (some (.ref f28))) (l28 : K.lookup f28 = some ⟨oc28, od28, .func (PySem.W.fnOf "_law_due" "_law_due" (defArgs s__law_due) (defBody s__law_due) (defScope s__law_due) .none kV28 dc28 pm28 an28 cd28 ct28), sl28⟩) (c28 : PySem.W.codeIn K cd28 "_law_due" = true) (k28 : PySem.W.keepIn K (.ref f28) = true)
    (a29 : PySem.W.nsIn K mainGlobals "_law_right" = some (some (.ref f29))) (l29 : K.lookup f29 = some ⟨oc29, od29, .func (PySem.W.fnOf "_law_right" "_law_right" (defArgs s__law_right) (defBody s__law_right) (defScope s__law_right) .none kV29 dc29 pm29 an29 cd29 ct29), sl29⟩) (c29 : PySem.W.codeIn K cd29 "_law_right" = true) (k29 : PySem.W.keepIn K (.ref f29) = true)
    (a30 : PySem.W.nsIn K mainGlobals "_law_frames_right" = some (some (.ref f30))) (l30 : K.lookup f30 = some ⟨oc30, od30, .func (PySem.W.fnOf "_law_frames_right" "_law_frames_right" (defArgs s__law_frames_right) (defBody s__law_frames_right) (defScope s__law_frames_right) .none kV30 dc30 pm30 an30 cd30 ct30), sl30⟩) (c30 : PySem.W.codeIn K cd30 "_law_frames_right" = true) (k30 : PySem.W.keepIn K (.ref f30) = true)
    (a31 : PySem.W.nsIn K mainGlobals "law" = some (some (.ref f31))) (l31 : K.lookup f31 = some ⟨oc31, od31, .func (PySem.W.fnOf "law" "law" (defArgs s_law) (defBody s_law) (defScope s_law) .none kV31 dc31 pm31 an31 cd31 ct31), sl31⟩) (c31 : PySem.W.codeIn K cd31 "law" = true) (k31 : PySem.W.keepIn K (.ref f31) = true)
    (z_any : PySem.W.nsIn K mainGlobals "any" = some none)
    (z_sum : PySem.W.nsIn K mainGlobals "sum" = some none)
    (z_zip : PySem.W.nsIn K mainGlobals "zip" = some none)
    (z_range : PySem.W.nsIn K mainGlobals "range" = some none)
    (z_sorted : PySem.W.nsIn K mainGlobals "sorted" = some none)
    (z_tuple : PySem.W.nsIn K mainGlobals "tuple" = some none)
    (z_list : PySem.W.nsIn K mainGlobals "list" = some none)
    (z_len : PySem.W.nsIn K mainGlobals "len" = some none)
    (z_abs : PySem.W.nsIn K mainGlobals "abs" = some none)
    (z_int : PySem.W.nsIn K mainGlobals "int" = some none)
    (z_isinstance : PySem.W.nsIn K mainGlobals "isinstance" = some none)
    (z_all : PySem.W.nsIn K mainGlobals "all" = some none)
    (z_bool : PySem.W.nsIn K mainGlobals "bool" = some none)
    (z_str : PySem.W.nsIn K mainGlobals "str" = some none)
    {t_SIZE : Tok} (y_SIZE : PySem.W.nsIn K mainGlobals "SIZE" = some (some (.int 8 t_SIZE)))
    {t_RESIDUES : Addr} (y_RESIDUES : PySem.W.nsIn K mainGlobals "RESIDUES" = some (some (.ref t_RESIDUES))) (r_RESIDUES : gdB K t_RESIDUES [(0, .tup [.int 0]), (1, .tup [.int (-3), .int 1]), (2, .tup [.int (-2), .int 2]), (3, .tup [.int (-1), .int 3])] = true)
    {t_RESTS : Value} (y_RESTS : PySem.W.nsIn K mainGlobals "RESTS" = some (some t_RESTS)) (r_RESTS : repB K t_RESTS (.tup [.int 1, .int 120, .int 135]) = true)
    (hB : ∀ φ : Fd, φ.Ok → ∃ φ', B_law ((List.replicate 9 none).set 1 (some .feed)) φ = .rt (.bl true) φ') :
    ∃ fd : FuncData, (∀ (s : Shared) (v : Value), BindsTo s fd ⟨[v], []⟩ [("script", v)]) ∧ ∀ base : Heap, K.In base → base.Ns mainGlobals mg → FnOk l.prog w K mg base (L2.CX l.prog w) 11 fa fd ["script"] (spLaw K) := by
  have e := hfa.symm.trans (PySem.W.mg_of X G a31)
  cases e
  have m_any := PySem.W.mg_none_of X G z_any
  have m_sum := PySem.W.mg_none_of X G z_sum
  have m_zip := PySem.W.mg_none_of X G z_zip
  have m_range := PySem.W.mg_none_of X G z_range
  have m_sorted := PySem.W.mg_none_of X G z_sorted
  have m_tuple := PySem.W.mg_none_of X G z_tuple
  have m_list := PySem.W.mg_none_of X G z_list
  have m_len := PySem.W.mg_none_of X G z_len
  have m_abs := PySem.W.mg_none_of X G z_abs
  have m_int := PySem.W.mg_none_of X G z_int
  have m_isinstance := PySem.W.mg_none_of X G z_isinstance
  have m_all := PySem.W.mg_none_of X G z_all
  have m_bool := PySem.W.mg_none_of X G z_bool
  have m_str := PySem.W.mg_none_of X G z_str
  have g_SIZE : ∃ t, mg "SIZE" = some (.int 8 t) := ⟨t_SIZE, PySem.W.mg_of X G y_SIZE⟩
  have g_RESIDUES : ∃ p, mg "RESIDUES" = some (.ref p) ∧ gdB K p [(0, .tup [.int 0]), (1, .tup [.int (-3), .int 1]), (2, .tup [.int (-2), .int 2]), (3, .tup [.int (-1), .int 3])] = true := ⟨t_RESIDUES, PySem.W.mg_of X G y_RESIDUES, r_RESIDUES⟩
  have g_RESTS : ∃ u, mg "RESTS" = some u ∧ repB K u (.tup [.int 1, .int 120, .int 135]) = true := ⟨t_RESTS, PySem.W.mg_of X G y_RESTS, r_RESTS⟩
  have F0 := fun_mk (st := s_fault_of_kind) l0 c0 k0
  have b0 := F0.binds (ps := ["row"]) fun _ _ _ _ _ _ us hl => match us, hl with | [_], _ => rfl
  have g0 := PySem.W.mg_of X G a0
  have F1 := fun_mk (st := s_row_product) l1 c1 k1
  have b1 := F1.binds (ps := ["one", "other"]) fun _ _ _ _ _ _ us hl => match us, hl with | [_, _], _ => rfl
  have g1 := PySem.W.mg_of X G a1
  have F2 := fun_mk (st := s_row_square) l2 c2 k2
  have b2 := F2.binds (ps := ["row"]) fun _ _ _ _ _ _ us hl => match us, hl with | [_], _ => rfl
  have g2 := PySem.W.mg_of X G a2
  have F3 := fun_mk (st := s_row_less) l3 c3 k3
  have b3 := F3.binds (ps := ["one", "other"]) fun _ _ _ _ _ _ us hl => match us, hl with | [_, _], _ => rfl
  have g3 := PySem.W.mg_of X G a3
  have F4 := fun_mk (st := s_even_roots) l4 c4 k4
  have b4 := F4.binds (ps := []) fun _ _ _ _ _ _ us hl => match us, hl with | [], _ => rfl
  have g4 := PySem.W.mg_of X G a4
  have F5 := fun_mk (st := s_odd_roots) l5 c5 k5
  have b5 := F5.binds (ps := []) fun _ _ _ _ _ _ us hl => match us, hl with | [], _ => rfl
  have g5 := PySem.W.mg_of X G a5
  have F6 := fun_mk (st := s_all_roots) l6 c6 k6
  have b6 := F6.binds (ps := []) fun _ _ _ _ _ _ us hl => match us, hl with | [], _ => rfl
  have g6 := PySem.W.mg_of X G a6
  have F7 := fun_mk (st := s_base_roots) l7 c7 k7
  have b7 := F7.binds (ps := []) fun _ _ _ _ _ _ us hl => match us, hl with | [], _ => rfl
  have g7 := PySem.W.mg_of X G a7
  have F8 := fun_mk (st := s_is_twice) l8 c8 k8
  have b8 := F8.binds (ps := ["numbers"]) fun _ _ _ _ _ _ us hl => match us, hl with | [_], _ => rfl
  have g8 := PySem.W.mg_of X G a8
  have F9 := fun_mk (st := s_lists_of) l9 c9 k9
  have b9 := F9.binds (ps := ["choices"]) fun _ _ _ _ _ _ us hl => match us, hl with | [_], _ => rfl
  have g9 := PySem.W.mg_of X G a9
  have F10 := fun_mk (st := s_rows_of_square_four) l10 c10 k10
  have b10 := F10.binds (ps := []) fun _ _ _ _ _ _ us hl => match us, hl with | [], _ => rfl
  have g10 := PySem.W.mg_of X G a10
  have F11 := fun_mk (st := s_rows_with_residues) l11 c11 k11
  have b11 := F11.binds (ps := ["residues"]) fun _ _ _ _ _ _ us hl => match us, hl with | [_], _ => rfl
  have g11 := PySem.W.mg_of X G a11
  have F12 := fun_mk (st := s_frame_of) l12 c12 k12
  have b12 := F12.binds (ps := ["row"]) fun _ _ _ _ _ _ us hl => match us, hl with | [_], _ => rfl
  have g12 := PySem.W.mg_of X G a12
  have F13 := fun_mk (st := s_rest_by_two) l13 c13 k13
  have b13 := F13.binds (ps := ["row"]) fun _ _ _ _ _ _ us hl => match us, hl with | [_], _ => rfl
  have g13 := PySem.W.mg_of X G a13
  have F14 := fun_mk (st := s_frames) l14 c14 k14
  have b14 := F14.binds (ps := []) fun _ _ _ _ _ _ us hl => match us, hl with | [], _ => rfl
  have g14 := PySem.W.mg_of X G a14
  have F15 := fun_mk (st := s_count_rests) l15 c15 k15
  have b15 := F15.binds (ps := []) fun _ _ _ _ _ _ us hl => match us, hl with | [], _ => rfl
  have g15 := PySem.W.mg_of X G a15
  have F16 := fun_mk (st := s_sum_by_two) l16 c16 k16
  have b16 := F16.binds (ps := ["row"]) fun _ _ _ _ _ _ us hl => match us, hl with | [_], _ => rfl
  have g16 := PySem.W.mg_of X G a16
  have F17 := fun_mk (st := s__law_feed) l17 c17 k17
  have b17 := F17.binds (ps := ["script"]) fun _ _ _ _ _ _ us hl => match us, hl with | [_], _ => rfl
  have g17 := PySem.W.mg_of X G a17
  have F18 := fun_mk (st := s__law_draw) l18 c18 k18
  have b18 := F18.binds (ps := ["feed", "many"]) fun _ _ _ _ _ _ us hl => match us, hl with | [_, _], _ => rfl
  have g18 := PySem.W.mg_of X G a18
  have F19 := fun_mk (st := s__law_is_twice) l19 c19 k19
  have b19 := F19.binds (ps := ["row"]) fun _ _ _ _ _ _ us hl => match us, hl with | [_], _ => rfl
  have g19 := PySem.W.mg_of X G a19
  have F20 := fun_mk (st := s__law_less) l20 c20 k20
  have b20 := F20.binds (ps := ["one", "other", "many"]) fun _ _ _ _ _ _ us hl => match us, hl with | [_, _, _], _ => rfl
  have g20 := PySem.W.mg_of X G a20
  have F21 := fun_mk (st := s__law_same) l21 c21 k21
  have b21 := F21.binds (ps := ["actual", "due"]) fun _ _ _ _ _ _ us hl => match us, hl with | [_, _], _ => rfl
  have g21 := PySem.W.mg_of X G a21
  have F22 := fun_mk (st := s__law_times) l22 c22 k22
  have b22 := F22.binds (ps := ["one", "other"]) fun _ _ _ _ _ _ us hl => match us, hl with | [_, _], _ => rfl
  have g22 := PySem.W.mg_of X G a22
  have F23 := fun_mk (st := s__law_base) l23 c23 k23
  have b23 := F23.binds (ps := []) fun _ _ _ _ _ _ us hl => match us, hl with | [], _ => rfl
  have g23 := PySem.W.mg_of X G a23
  have F24 := fun_mk (st := s__law_each) l24 c24 k24
  have b24 := F24.binds (ps := ["rows"]) fun _ _ _ _ _ _ us hl => match us, hl with | [_], _ => rfl
  have g24 := PySem.W.mg_of X G a24
  have F25 := fun_mk (st := s__law_roots) l25 c25 k25
  have b25 := F25.binds (ps := []) fun _ _ _ _ _ _ us hl => match us, hl with | [], _ => rfl
  have g25 := PySem.W.mg_of X G a25
  have F26 := fun_mk (st := s__law_row) l26 c26 k26
  have b26 := F26.binds (ps := ["feed", "roots", "most"]) fun _ _ _ _ _ _ us hl => match us, hl with | [_, _, _], _ => rfl
  have g26 := PySem.W.mg_of X G a26
  have F27 := fun_mk (st := s__law_fours) l27 c27 k27
  have b27 := F27.binds (ps := []) fun _ _ _ _ _ _ us hl => match us, hl with | [], _ => rfl
  have g27 := PySem.W.mg_of X G a27
  have F28 := fun_mk (st := s__law_due) l28 c28 k28
  have b28 := F28.binds (ps := ["every", "fours", "row"]) fun _ _ _ _ _ _ us hl => match us, hl with | [_, _, _], _ => rfl
  have g28 := PySem.W.mg_of X G a28
  have F29 := fun_mk (st := s__law_right) l29 c29 k29
  have b29 := F29.binds (ps := ["every", "fours", "row"]) fun _ _ _ _ _ _ us hl => match us, hl with | [_, _, _], _ => rfl
  have g29 := PySem.W.mg_of X G a29
  have F30 := fun_mk (st := s__law_frames_right) l30 c30 k30
  have b30 := F30.binds (ps := ["fours"]) fun _ _ _ _ _ _ us hl => match us, hl with | [_], _ => rfl
  have g30 := PySem.W.mg_of X G a30
  have F31 := fun_mk (st := s_law) l31 c31 k31
  have b31 := F31.binds (ps := ["script"]) fun _ _ _ _ _ _ us hl => match us, hl with | [_], _ => rfl
  have g31 := PySem.W.mg_of X G a31
  refine ⟨PySem.W.fnOf "law" "law" (defArgs s_law) (defBody s_law) (defScope s_law) .none kV31 dc31 pm31 an31 cd31 ct31, fun s v => .of_eq rfl, fun base _ _ => ?_⟩
  have c_fault_of_kind : Cal l.prog w K mg base (fun _ => none) "fault_of_kind" 1 [true] .o F_fault_of_kind := cal_of g0 F0.kp b0 (ok_fault_of_kind F0 m_any m_sum g_SIZE)
  have c_row_product : Cal l.prog w K mg base (fun _ => none) "row_product" 1 [true, true] .o F_row_product := cal_of g1 F1.kp b1 (ok_row_product F1 m_sum m_zip)
  have c_row_square : Cal l.prog w K mg base (fun _ => none) "row_square" 2 [true] .o F_row_square := cal_of g2 F2.kp b2 (ok_row_square F2 c_row_product)
  have c_row_less : Cal l.prog w K mg base (fun _ => none) "row_less" 1 [true, true] .o F_row_less := cal_of g3 F3.kp b3 (ok_row_less F3 m_zip)
  have c_even_roots : Cal l.prog w K mg base (fun _ => none) "even_roots" 1 [] .o F_even_roots := cal_of g4 F4.kp b4 (ok_even_roots F4 m_range g_SIZE)
  have c_odd_roots : Cal l.prog w K mg base (fun _ => none) "odd_roots" 1 [] .o F_odd_roots := cal_of g5 F5.kp b5 (ok_odd_roots F5 m_range m_sum g_SIZE)
  have c_all_roots : Cal l.prog w K mg base (fun _ => none) "all_roots" 2 [] .o F_all_roots := cal_of g6 F6.kp b6 (ok_all_roots F6 c_even_roots c_odd_roots m_sorted)
  have c_base_roots : Cal l.prog w K mg base (fun _ => none) "base_roots" 1 [] .o F_base_roots := cal_of g7 F7.kp b7 (ok_base_roots F7 m_range g_SIZE)
  have c_is_twice : Cal l.prog w K mg base (fun _ => none) "is_twice" 2 [true] .o F_is_twice := cal_of g8 F8.kp b8 (ok_is_twice F8 c_fault_of_kind m_any)
  have c_lists_of : Cal l.prog w K mg base (fun _ => none) "lists_of" 1 [true] .o F_lists_of := cal_of g9 F9.kp b9 (ok_lists_of F9)
  have c_rows_of_square_four : Cal l.prog w K mg base (fun _ => none) "rows_of_square_four" 3 [] .o F_rows_of_square_four := cal_of g10 F10.kp b10 (ok_rows_of_square_four F10 c_lists_of c_row_square m_sum m_range m_sorted g_SIZE)
  have c_rows_with_residues : Cal l.prog w K mg base (fun _ => none) "rows_with_residues" 3 [true] .o F_rows_with_residues := cal_of g11 F11.kp b11 (ok_rows_with_residues F11 c_lists_of c_row_square m_sum m_range g_RESIDUES g_SIZE)
  have c_frame_of : Cal l.prog w K mg base (fun _ => none) "frame_of" 4 [true] .o F_frame_of := cal_of g12 F12.kp b12 (ok_frame_of F12 c_rows_with_residues c_is_twice c_row_less m_sorted)
  have c_rest_by_two : Cal l.prog w K mg base (fun _ => none) "rest_by_two" 5 [true] .o F_rest_by_two := cal_of g13 F13.kp b13 (ok_rest_by_two F13 c_is_twice c_all_roots c_row_less c_frame_of)
  have c_frames : Cal l.prog w K mg base (fun _ => none) "frames" 4 [] .o F_frames := cal_of g14 F14.kp b14 (ok_frames F14 c_base_roots c_rows_of_square_four c_row_product m_tuple m_sorted)
  have c_count_rests : Cal l.prog w K mg base (fun _ => none) "count_rests" 1 [] .o F_count_rests := cal_of g15 F15.kp b15 (ok_count_rests F15 g_RESTS)
  have c_sum_by_two : Cal l.prog w K mg base (fun _ => none) "sum_by_two" 3 [true] .o F_sum_by_two := cal_of g16 F16.kp b16 (ok_sum_by_two F16 c_row_square)
  have c__law_draw : Cal l.prog w K mg base (fun _ => none) "_law_draw" 1 [false, false] .s F__law_draw := cal_of g18 F18.kp b18 (ok__law_draw F18 m_len m_abs m_int)
  have c__law_is_twice : Cal l.prog w K mg base (fun _ => none) "_law_is_twice" 1 [true] .o F__law_is_twice := cal_of g19 F19.kp b19 (ok__law_is_twice F19 m_len m_int m_sum)
  have c__law_less : Cal l.prog w K mg base (fun _ => none) "_law_less" 1 [true, true, true] .o F__law_less := cal_of g20 F20.kp b20 (ok__law_less F20 m_range)
  have c__law_same : Cal l.prog w K mg base (fun _ => none) "_law_same" 9 [true, true] .o (F__law_same 8) := cal_of g21 F21.kp b21 (ok__law_same F21 g21 b21 m_isinstance m_list m_tuple m_len m_all m_range m_bool m_str m_int 8)
  have c__law_times : Cal l.prog w K mg base (fun _ => none) "_law_times" 1 [true, true] .o F__law_times := cal_of g22 F22.kp b22 (ok__law_times F22 m_sum m_range)
  have c__law_base : Cal l.prog w K mg base (fun _ => none) "_law_base" 1 [] .o F__law_base := cal_of g23 F23.kp b23 (ok__law_base F23 m_range)
  have c__law_each : Cal l.prog w K mg base (fun _ => none) "_law_each" 1 [true] .o F__law_each := cal_of g24 F24.kp b24 (ok__law_each F24 m_sorted m_len)
  have c__law_roots : Cal l.prog w K mg base (fun _ => none) "_law_roots" 1 [] .o F__law_roots := cal_of g25 F25.kp b25 (ok__law_roots F25 m_range m_int m_sum m_sorted)
  have c__law_row : Cal l.prog w K mg base (fun _ => none) "_law_row" 2 [false, true, true] .o F__law_row := cal_of g26 F26.kp b26 (ok__law_row F26 c__law_draw c__law_less m_range)
  have c__law_fours : Cal l.prog w K mg base (fun _ => none) "_law_fours" 1 [] .o F__law_fours := cal_of g27 F27.kp b27 (ok__law_fours F27 m_range m_len m_int m_sum m_sorted)
  have c__law_due : Cal l.prog w K mg base (fun _ => none) "_law_due" 2 [true, true, true] .o F__law_due := cal_of g28 F28.kp b28 (ok__law_due F28 c__law_is_twice c__law_less m_len)
  have c__law_right : Cal l.prog w K mg base (fun _ => none) "_law_right" 10 [true, true, true] .o F__law_right := cal_of g29 F29.kp b29 (ok__law_right F29 c__law_due c_rest_by_two c__law_same c__law_times c_sum_by_two m_list m_int m_len)
  have c__law_frames_right : Cal l.prog w K mg base (fun _ => none) "_law_frames_right" 10 [true] .o F__law_frames_right := cal_of g30 F30.kp b30 (ok__law_frames_right F30 c__law_base c_frames c__law_same c__law_times c__law_is_twice c__law_less c__law_each m_isinstance m_list m_len m_sorted m_int)
  exact ok_law (cls := fun _ => none) F31 F17 g17 b17 m_list c__law_roots c__law_fours c__law_row c__law_draw c__law_less c__law_right c__law_same c_count_rests c__law_frames_right c_rest_by_two m_len hB
end Pf

set_option Elab.async false
set_option linter.all false
set_option maxRecDepth 100000
set_option maxHeartbeats 4000000
namespace Pf
open PySem PySem.Spec PyProof.Rows L2

/-! ## plain evaluation -/
section
variable {ρ ρ1 ρ2 : En} {φ φ1 φ2 φ3 : Fd} {A B C : SX} {d e z : D}
theorem v_ok {i : Nat} (h : ρ[i]? = some (some d)) : eVar i ρ φ = .ok d φ := by unfold eVar; rw [h]
theorem bin_ok {g : D → D → Option D} (ha : A ρ φ = .ok d φ1) (hb : B ρ φ1 = .ok e φ2) (h : g d e = some z) : eBin g A B ρ φ = .ok z φ2 := by
  unfold eBin; rw [ha]; show (B ρ φ1).bind _ = _; rw [hb]; show ofO (g d e) φ2 = _; rw [h]; rfl
theorem un_ok {g : D → Option D} (ha : A ρ φ = .ok d φ1) (h : g d = some z) : eUn g A ρ φ = .ok z φ1 := by
  unfold eUn; rw [ha]; show ofO (g d) φ1 = _; rw [h]; rfl
theorem nil_ok : aNil ρ φ = .ok [] φ := rfl
theorem cons_ok {S : SA} {ds : List D} (ha : A ρ φ = .ok d φ1) (hs : S ρ φ1 = .ok ds φ2) : aCons A S ρ φ = .ok (d :: ds) φ2 := by
  unfold aCons; rw [ha]; show (S ρ φ1).bind _ = _; rw [hs]; rfl
theorem one_ok (ha : A ρ φ = .ok d φ1) : aCons A aNil ρ φ = .ok [d] φ1 := cons_ok ha nil_ok
theorem two_ok (ha : A ρ φ = .ok d φ1) (hb : B ρ φ1 = .ok e φ2) : aCons A (aCons B aNil) ρ φ = .ok [d, e] φ2 := cons_ok ha (one_ok hb)
theorem cb_ok {S : SA} {g : List D → Option D} {ds : List D} (hs : S ρ φ = .ok ds φ1) (h : g ds = some z) : eCB g S ρ φ = .ok z φ1 := by
  unfold eCB; rw [hs]; show ofO (g ds) φ1 = _; rw [h]; rfl
theorem cb1_ok {g : List D → Option D} (ha : A ρ φ = .ok d φ1) (h : g [d] = some z) : eCB g (aCons A aNil) ρ φ = .ok z φ1 := cb_ok (one_ok ha) h
theorem call_ok {S : SA} {F : Fn} {ds : List D} (hs : S ρ φ = .ok ds φ1) (h : F ds φ1 = .ok z φ2) : eCall F S ρ φ = .ok z φ2 := by
  unfold eCall; rw [hs]; exact h
theorem call0_ok {F : Fn} (h : F [] φ = .ok z φ1) : eCall0 F ρ φ = .ok z φ1 := by unfold eCall0; rw [h]
theorem lst_ok {S : SA} {ds : List D} (hs : S ρ φ = .ok ds φ1) (h : ds.length ≤ sizeLine) : eLst S ρ φ = .ok (.lst ds) φ1 := by
  unfold eLst; rw [hs]; show (if _ then _ else _) = _; rw [if_pos h]
theorem tup_ok {S : SA} {ds : List D} (hs : S ρ φ = .ok ds φ1) (h : ds.length ≤ sizeLine) : eTup S ρ φ = .ok (.tup ds) φ1 := by
  unfold eTup; rw [hs]; show (if _ then _ else _) = _; rw [if_pos h]
/-! tests -/
variable {S T : SB} {b k : Bool}
theorem cmp_ok {g : D → D → Option D} (ha : A ρ φ = .ok d φ1) (hb : B ρ φ1 = .ok e φ2) (h : g d e = some (.bl b)) : bCmp g A B ρ φ = .ok b φ2 := by
  unfold bCmp bVal; rw [bin_ok ha hb h]; rfl
theorem tru_ok (ha : A ρ φ = .ok d φ1) (h : truD d = some b) : bTru A ρ φ = .ok b φ1 := by
  unfold bTru; rw [ha]; show ofO (truD d) φ1 = _; rw [h]; rfl
theorem trub_ok (ha : A ρ φ = .ok (.bl b) φ1) : bTru A ρ φ = .ok b φ1 := tru_ok ha (show some b = some b from rfl)
theorem not_ok (ha : S ρ φ = .ok b φ1) : bNot S ρ φ = .ok (!b) φ1 := by unfold bNot; rw [ha]; rfl
theorem or_no (ha : S ρ φ = .ok false φ1) (hb : T ρ φ1 = .ok b φ2) : bOr S T ρ φ = .ok b φ2 := by
  unfold bOr; rw [ha]; exact hb
theorem or_yes (ha : S ρ φ = .ok true φ1) : bOr S T ρ φ = .ok true φ1 := by unfold bOr; rw [ha]; rfl
theorem or_ok (ha : S ρ φ = .ok b φ1) (hb : b = false → T ρ φ1 = .ok k φ1) : bOr S T ρ φ = .ok (b || k) φ1 := by
  cases b with
  | true => rw [or_yes ha]; rfl
  | false => rw [or_no ha (hb rfl)]; rfl
theorem and_yes (ha : S ρ φ = .ok true φ1) (hb : T ρ φ1 = .ok b φ2) : bAnd S T ρ φ = .ok b φ2 := by
  unfold bAnd; rw [ha]; exact hb
theorem and_no (ha : S ρ φ = .ok false φ1) : bAnd S T ρ φ = .ok false φ1 := by unfold bAnd; rw [ha]; rfl
theorem and_ok (ha : S ρ φ = .ok b φ1) (hb : b = true → T ρ φ1 = .ok k φ1) : bAnd S T ρ φ = .ok (b && k) φ1 := by
  cases b with
  | false => rw [and_no ha]; rfl
  | true => rw [and_yes ha (hb rfl)]; rfl
theorem still_ok (ha : S ρ φ = .ok b φ1) : bStill S ρ φ = .ok b φ1 := by unfold bStill; rw [ha]; rfl
theorem eand_yes (ha : A ρ φ = .ok (.bl true) φ1) (hb : B ρ φ1 = .ok d φ2) : eAnd A B ρ φ = .ok d φ2 := by unfold eAnd; rw [ha]; exact hb
theorem eand_no (ha : A ρ φ = .ok (.bl false) φ1) : eAnd A B ρ φ = .ok (.bl false) φ1 := by unfold eAnd; rw [ha]; rfl
theorem eor_no (ha : A ρ φ = .ok (.bl false) φ1) (hb : B ρ φ1 = .ok d φ2) : eOr A B ρ φ = .ok d φ2 := by unfold eOr; rw [ha]; exact hb
theorem enot_ok (ha : A ρ φ = .ok (.bl b) φ1) : eNot A ρ φ = .ok (.bl (!b)) φ1 := by unfold eNot; rw [ha]; rfl
theorem eif_yes (ha : S ρ φ = .ok true φ1) (hb : A ρ φ1 = .ok d φ2) : eIf S A B ρ φ = .ok d φ2 := by unfold eIf; rw [ha]; exact hb
theorem eif_no (ha : S ρ φ = .ok false φ1) (hb : B ρ φ1 = .ok d φ2) : eIf S A B ρ φ = .ok d φ2 := by unfold eIf; rw [ha]; exact hb
/-! statements -/
variable {P Q : SS} {r : R}
theorem seq_nx (h1 : P ρ φ = .nx ρ1 φ1) (h2 : Q ρ1 φ1 = r) : sSeq P Q ρ φ = r := by unfold sSeq; rw [h1]; exact h2
theorem seq_rt (h1 : P ρ φ = .rt d φ1) : sSeq P Q ρ φ = .rt d φ1 := by unfold sSeq; rw [h1]; rfl
theorem seq_one (h1 : P ρ φ = .nx ρ1 φ1) : sSeq P sNil ρ φ = .nx ρ1 φ1 := seq_nx h1 rfl
theorem set_ok {i : Nat} (h : A ρ φ = .ok d φ1) : sSet i A ρ φ = .nx (ρ.set i (some d)) φ1 := by unfold sSet; rw [h]; rfl
theorem ret_ok (h : A ρ φ = .ok d φ1) : sRet A ρ φ = .rt d φ1 := by unfold sRet; rw [h]; rfl
theorem if_yes (h : S ρ φ = .ok true φ1) (h2 : P ρ φ1 = r) : sIf S P Q ρ φ = r := by unfold sIf; rw [h]; exact h2
theorem if_no (h : S ρ φ = .ok false φ1) (h2 : Q ρ φ1 = r) : sIf S P Q ρ φ = r := by unfold sIf; rw [h]; exact h2
/-- a test that must not hold -/
theorem if_skip (h : S ρ φ = .ok false φ1) : sIf S P sNil ρ φ = .nx ρ φ1 := if_no h rfl
theorem app_ok {i : Nat} {l : List D} (hi : ρ[i]? = some (some (.lst l))) (h : A ρ φ = .ok d φ1) (hl : l.length < sizeLine) : sMut i gApp A ρ φ = .nx (ρ.set i (some (.lst (l ++ [d])))) φ1 := by
  unfold sMut; rw [hi]; show (A ρ φ).toR ρ _ = _; rw [h]; show (match gApp l d with | some l' => R.nx (ρ.set i (some (.lst l'))) φ1 | none => .bad) = _
  unfold gApp; rw [if_pos hl]
theorem ext_ok {i : Nat} {l k : List D} (hi : ρ[i]? = some (some (.lst l))) (h : A ρ φ = .ok (.lst k) φ1) (hl : l.length + k.length ≤ sizeLine) : sMut i gExt A ρ φ = .nx (ρ.set i (some (.lst (l ++ k)))) φ1 := by
  unfold sMut; rw [hi]; show (A ρ φ).toR ρ _ = _; rw [h]; show (match gExt l (.lst k) with | some l' => R.nx (ρ.set i (some (.lst l'))) φ1 | none => .bad) = _
  unfold gExt; dsimp only; rw [if_pos hl]
theorem aug_ok {i : Nat} {f : Int → Int → Int} {n m : Int} (hi : ρ[i]? = some (some (.int n))) (h : A ρ φ = .ok (.int m) φ1) : sAug i f A ρ φ = .nx (ρ.set i (some (.int (f n m)))) φ1 := by
  unfold sAug; rw [hi]; show (A ρ φ).toR ρ _ = _; rw [h]; rfl
theorem scope_nx {own1 : List Ms} (h1 : P ρ φ = .nx ρ1 φ1) (h2 : Q (enOut own1 ρ1) φ1 = r) : sScope own1 P Q ρ φ = r := by unfold sScope; rw [h1]; exact h2
theorem scope_rt {own1 : List Ms} (h1 : P ρ φ = .rt d φ1) : sScope own1 P Q ρ φ = .rt d φ1 := by unfold sScope; rw [h1]
theorem for_ok {I : SA} {T : Tg} {ds : List D} (hI : I ρ φ = .ok ds φ1) (h : forGo T P ds ρ φ1 = r) : sFor I T P ρ φ = r := by unfold sFor; rw [hI]; exact h
theorem run_rt {n s : Nat} {ds : List D} (h : P (ds.map some ++ List.replicate (s - n) none) φ = .rt d φ1) : runB P n s ds φ = .ok d φ1 := by unfold runB; rw [h]
theorem run_nx {n s : Nat} {ds : List D} (h : P (ds.map some ++ List.replicate (s - n) none) φ = .nx ρ1 φ1) : runB P n s ds φ = .ok .non φ1 := by unfold runB; rw [h]
theorem run_ret {n s : Nat} {ds : List D} (h : A (ds.map some ++ List.replicate (s - n) none) φ = .ok d φ1) : runB (sSeq (sRet A) sNil) n s ds φ = .ok d φ1 := run_rt (seq_rt (ret_ok h))
end
/-! iterators -/
section
variable {ρ : En} {φ φ1 : Fd} {A : SX} {d : D}
theorem seq_l {l : List D} (h : A ρ φ = .ok (.lst l) φ1) : iSeq A ρ φ = .ok l φ1 := by unfold iSeq; rw [h]; rfl
theorem seq_t {l : List D} (h : A ρ φ = .ok (.tup l) φ1) : iSeq A ρ φ = .ok l φ1 := by unfold iSeq; rw [h]; rfl
theorem upTo_eq (n : Nat) (a : Int) : upTo a n = (List.range n).map fun (k : Nat) => D.int (a + k) := by
  refine List.ext_getElem? fun i => ?_
  by_cases h : i < n
  · rw [upTo_get n a i h, List.getElem?_map, List.getElem?_range h]; rfl
  · rw [List.getElem?_eq_none (by rw [upTo_len]; omega), List.getElem?_eq_none (by simp; omega)]
theorem bind_ok' {α β : Type} {x : O α} {a : α} {k : α → Fd → O β} (h : x = .ok a φ1) : x.bind k = k a φ1 := by rw [h]; rfl
theorem ofO_some {α : Type} {o : Option α} {a : α} (h : o = some a) : ofO o φ1 = .ok a φ1 := by rw [h]; rfl
theorem small62_of {j : Int} (h : -4611686018427387904 ≤ j ∧ j < 4611686018427387904) : small62 j = true := by
  unfold small62
  rw [Bool.and_eq_true, decide_eq_true_eq, decide_eq_true_eq]
  exact h
theorem rg1_some {n : Nat} (hn : n < 1000000000) : rg1 [.int (n : Int)] = some (upTo 0 n) := by
  have h1 : rg1 [.int (n : Int)] = if small62 (n : Int) then some (upTo 0 (n : Int).toNat) else none := by rw [rg1]
  rw [h1, small62_of ⟨by omega, by omega⟩, if_pos rfl, Int.toNat_natCast]
theorem rg1_ok {S : SA} {n : Nat} (h : S ρ φ = .ok [.int (n : Int)] φ1) (hn : n < 1000000000) : iRg1 S ρ φ = .ok ((List.range n).map fun (k : Nat) => D.int k) φ1 := by
  unfold iRg1
  rw [bind_ok' h, ofO_some (rg1_some hn), upTo_eq]
  congr 1
  exact List.map_congr_left fun k _ => by rw [Int.zero_add]
theorem rg2_some {a b : Int} (ha : small62 a = true) (hb : small62 b = true) : rg2 [.int a, .int b] = some (upTo a (b - a).toNat) := by
  have h1 : rg2 [.int a, .int b] = if (small62 a && small62 b) = true then some (upTo a (b - a).toNat) else none := by rw [rg2]
  rw [h1, ha, hb]; exact if_pos (by decide)
theorem rg2_ok {S : SA} {a b : Int} (h : S ρ φ = .ok [.int a, .int b] φ1) (ha : small62 a = true) (hb : small62 b = true) : iRg2 S ρ φ = .ok ((List.range (b - a).toNat).map fun (k : Nat) => D.int (a + k)) φ1 := by
  unfold iRg2
  rw [bind_ok' h, ofO_some (rg2_some ha hb), upTo_eq]
end
/-! comprehensions over mapped lists -/
section
variable {α : Type} {T : Tg} {tst : SB} {elt : SX} {ρ : En} {φ : Fd}
theorem lcGo_map (e : α → D) (p : α → Bool) (g : α → D) : ∀ (xs : List α), (∀ x ∈ xs, ∃ ρ1, T (e x) ρ = some ρ1 ∧ tst ρ1 φ = .ok (p x) φ ∧ (p x = true → elt ρ1 φ = .ok (g x) φ)) → lcGo T tst elt ρ (xs.map e) φ = .ok ((xs.filter p).map g) φ
  | [], _ => rfl
  | x :: xs, h => by
    obtain ⟨ρ1, h1, h2, h3⟩ := h x List.mem_cons_self
    have ih := lcGo_map e p g xs fun y hy => h y (List.mem_cons_of_mem _ hy)
    rw [List.map_cons]
    unfold lcGo
    rw [h1]
    simp only [h2]
    cases hp : p x with
    | false => simp only; rw [List.filter_cons_of_neg (by rw [hp]; decide)]; exact ih
    | true => simp only [h3 hp, ih]; rw [List.filter_cons_of_pos hp]; rfl
theorem lc_ok {I : SA} {vs : List Nat} {φ1 : Fd} (xs : List α) (e : α → D) (p : α → Bool) (g : α → D) (hI : I ρ φ1 = .ok (xs.map e) φ) (hl : xs.length ≤ sizeLine)
    (h : ∀ x ∈ xs, ∃ ρ1, T (e x) (wipeE ρ vs) = some ρ1 ∧ tst ρ1 φ = .ok (p x) φ ∧ (p x = true → elt ρ1 φ = .ok (g x) φ)) : eLc I T tst elt vs ρ φ1 = .ok (.lst ((xs.filter p).map g)) φ := by
  unfold eLc
  rw [hI]
  show (match lcGo T tst elt (wipeE ρ vs) (xs.map e) φ with | .ok ys φ2 => if ys.length ≤ sizeLine then O.ok (D.lst ys) φ2 else .bad | _ => .bad) = _
  rw [lcGo_map e p g xs h]
  show (if _ then _ else _) = _
  rw [if_pos (by rw [List.length_map]; exact Nat.le_trans (List.length_filter_le _ _) hl)]
/-- without a test -/
theorem lcm_ok {I : SA} {vs : List Nat} {φ1 : Fd} (xs : List α) (e : α → D) (g : α → D) (hI : I ρ φ1 = .ok (xs.map e) φ) (hl : xs.length ≤ sizeLine)
    (h : ∀ x ∈ xs, ∃ ρ1, T (e x) (wipeE ρ vs) = some ρ1 ∧ elt ρ1 φ = .ok (g x) φ) : eLc I T bYes elt vs ρ φ1 = .ok (.lst (xs.map g)) φ := by
  have := lc_ok (tst := bYes) xs e (fun _ => true) g hI hl fun x hx => by
    obtain ⟨ρ1, h1, h2⟩ := h x hx
    exact ⟨ρ1, h1, rfl, fun _ => h2⟩
  rw [this, List.filter_eq_self.mpr fun _ _ => rfl]
/-- a loop with what holds of the slots -/
theorem for_inv {B : SS} {e : α → D} (P : List α → En → Prop) : ∀ (xs pre : List α) {ρ : En}, P pre ρ → (∀ (pre' : List α) (x : α) (post : List α) (ρ : En), pre ++ xs = pre' ++ x :: post → P pre' ρ → ∃ ρ1, T (e x) ρ = some ρ1 ∧ ∃ ρ2, (B ρ1 φ = .nx ρ2 φ ∨ B ρ1 φ = .ct ρ2 φ) ∧ P (pre' ++ [x]) ρ2) →
    ∃ ρ', forGo T B (xs.map e) ρ φ = .nx ρ' φ ∧ P (pre ++ xs) ρ'
  | [], pre, ρ, h0, _ => ⟨ρ, rfl, by simpa using h0⟩
  | x :: xs, pre, ρ, h0, hs => by
    obtain ⟨ρ1, h1, ρ2, h2, h3⟩ := hs pre x xs ρ rfl h0
    obtain ⟨ρ', h4, h5⟩ := for_inv (B := B) (e := e) P xs (pre ++ [x]) h3 fun pre' y post ρ e' hp => hs pre' y post ρ (by rw [← e']; simp) hp
    refine ⟨ρ', ?_, by simpa using h5⟩
    rw [List.map_cons]
    unfold forGo
    rw [h1]
    rcases h2 with h2 | h2 <;> simp only [h2] <;> exact h4
end

/-! ## rows -/
def row (r : List Int) : D := .lst (r.map .int)
def rws (l : List (List Int)) : D := .lst (l.map row)
theorem gSum_ints (ns : List Int) : gSum [row ns] = some (.int ns.sum) := by
  show (intsOf (ns.map D.int)).map (fun ns => D.int ns.sum) = _
  rw [intsOf_map]; rfl
theorem gSum_ints' (ns : List Int) : gSum [.lst (ns.map .int)] = some (.int ns.sum) := gSum_ints ns
theorem gMul_ok' {i j : Int} (h : i.natAbs < 18446744073709551616) : gMul (.int i) (.int j) = some (.int (i * j)) := by
  show (if cMul i j = true then _ else _) = _
  rw [if_pos]
  unfold cMul
  simp [h]
theorem gDiv_ok {i j : Int} (h0 : j ≠ 0) (h1 : j.natAbs < 1073741824) : gDiv (.int i) (.int j) = some (.int (i.fdiv j)) := by
  show (if cDiv i j = true then _ else _) = _
  rw [if_pos]
  unfold cDiv
  simp [h0, h1]
theorem gMod_ok {i j : Int} (h0 : j ≠ 0) : gMod (.int i) (.int j) = some (.int (i.fmod j)) := by
  show (if decide (j ≠ 0) = true then _ else _) = _
  rw [if_pos (by simp [h0])]
theorem gIx_row {r : List Int} {k : Nat} {x : Int} (h : r[k]? = some x) : gIx (row r) (.int (k : Int)) = some (.int x) := by
  show atI (r.map D.int) (k : Int) = _
  rw [atI_nat (by rw [List.getElem?_map, h]; rfl)]
theorem gIx_lst {l : List D} {k : Nat} {x : D} (h : l[k]? = some x) : gIx (.lst l) (.int (k : Int)) = some x := by
  show atI l (k : Int) = _
  rw [atI_nat h]
theorem size_le {n : Nat} (h : n ≤ 1000000) : n ≤ sizeLine := by rw [sizeLine_eq]; omega
theorem size_lt {n : Nat} (h : n ≤ 1000000) : n < sizeLine := by rw [sizeLine_eq]; omega
end Pf

set_option Elab.async false
set_option linter.all false
set_option maxRecDepth 100000
set_option maxHeartbeats 4000000
namespace Pf
open PySem PySem.Spec PyProof.Rows L2

/-! ## data of one shape: equality and order -/
def ltL {α : Type} [DecidableEq α] (lt : α → α → Bool) : List α → List α → Bool
  | [], [] => false
  | [], _ :: _ => true
  | _ :: _, [] => false
  | a :: r, b :: s => if a = b then ltL lt r s else lt a b
structure Tot {α : Type} (lt : α → α → Bool) : Prop where
  irr : ∀ a, lt a a = false
  tr : ∀ a b c, lt a b = true → lt b c = true → lt a c = true
  tri : ∀ a b, lt a b = false → lt b a = false → a = b
theorem Tot.asym {α : Type} {lt : α → α → Bool} (h : Tot lt) {a b : α} (q : lt a b = true) : lt b a = false := by
  cases e : lt b a with
  | false => rfl
  | true => have := h.tr a b a q e; rw [h.irr] at this; cases this
theorem tot_int : Tot (fun a b : Int => decide (a < b)) := ⟨fun a => by simp, fun a b c h1 h2 => by simp at *; omega, fun a b h1 h2 => by simp at *; omega⟩
theorem tot_lst {α : Type} [DecidableEq α] {lt : α → α → Bool} (h : Tot lt) : Tot (ltL lt) := by
  refine ⟨fun a => ?_, fun a => ?_, fun a => ?_⟩
  · induction a with
    | nil => rfl
    | cons x r ih => show (if x = x then _ else _) = _; rw [if_pos rfl]; exact ih
  · induction a with
    | nil => intro b c h1 h2; cases b <;> cases c <;> first | (cases h1; done) | (cases h2; done) | rfl
    | cons x r ih =>
      intro b c h1 h2
      cases b with
      | nil => cases h1
      | cons y s =>
        cases c with
        | nil => cases h2
        | cons z t =>
          have h1' : (if x = y then ltL lt r s else lt x y) = true := h1
          have h2' : (if y = z then ltL lt s t else lt y z) = true := h2
          show (if x = z then ltL lt r t else lt x z) = true
          by_cases e1 : x = y
          · rw [if_pos e1] at h1'
            subst e1
            by_cases e2 : x = z
            · rw [if_pos e2] at h2' ⊢; exact ih s t h1' h2'
            · rw [if_neg e2] at h2' ⊢; exact h2'
          · rw [if_neg e1] at h1'
            by_cases e2 : y = z
            · subst e2
              rw [if_neg e1]; exact h1'
            · rw [if_neg e2] at h2'
              by_cases e3 : x = z
              · subst e3
                have := h.tr _ _ _ h1' h2'
                rw [h.irr] at this; cases this
              · rw [if_neg e3]; exact h.tr _ _ _ h1' h2'
  · induction a with
    | nil => intro b h1 h2; cases b <;> first | rfl | (cases h1; done)
    | cons x r ih =>
      intro b h1 h2
      cases b with
      | nil => cases h2
      | cons y s =>
        have h1' : (if x = y then ltL lt r s else lt x y) = false := h1
        have h2' : (if y = x then ltL lt s r else lt y x) = false := h2
        by_cases e1 : x = y
        · subst e1
          rw [if_pos rfl] at h1' h2'
          rw [ih s h1' h2']
        · rw [if_neg e1] at h1'
          rw [if_neg (Ne.symm e1)] at h2'
          exact absurd (h.tri _ _ h1' h2') e1
/-- data f x, compared as x -/
structure Emb {α : Type} [DecidableEq α] (f : α → D) (lt : α → α → Bool) (n : Nat) : Prop where
  al : ∀ x y, PySem.W.alike (f x).py (f y).py = true
  eq : ∀ x y, PyData.eqv (f x).py (f y).py = decide (x = y)
  lt : ∀ x y, ltD (f x) (f y) = lt x y
  lay : ∀ x, (f x).py.canLay0 = true
  dep : ∀ x, (f x).py.depth ≤ n
  nn : ∀ x, f x ≠ .non
  nt : ∀ x l, f x ≠ .tup l
theorem emb_int : Emb D.int (fun a b => decide (a < b)) 0 :=
  ⟨fun _ _ => rfl, fun x y => by show PyData.eqv (.int x) (.int y) = _; simp only [PyData.eqv]; rfl, fun x y => PySem.W.dataLt_int x y, fun _ => rfl, fun _ => Nat.le_refl _, fun _ h => (by cases h), fun _ _ h => (by cases h)⟩
section
variable {α : Type} [DecidableEq α] {f : α → D} {lt : α → α → Bool} {n : Nat}
theorem pys_map (xs : List α) : D.pys (xs.map f) = xs.map fun x => (f x).py := by
  induction xs with
  | nil => rfl
  | cons x r ih => show (f x).py :: D.pys (r.map f) = _; rw [ih]; rfl
theorem alikeAll_map (h : Emb f lt n) : ∀ xs ys : List α, PySem.W.alikeAll (xs.map fun x => (f x).py) (ys.map fun x => (f x).py) = true
  | [], _ => by cases ‹List α› <;> simp [PySem.W.alikeAll]
  | _ :: _, [] => by simp [PySem.W.alikeAll]
  | x :: xs, y :: ys => by
    rw [List.map_cons, List.map_cons, PySem.W.alikeAll, h.al, alikeAll_map h xs ys]; rfl
theorem eqvAll_map (h : Emb f lt n) : ∀ xs ys : List α, PyData.eqvAll (xs.map fun x => (f x).py) (ys.map fun x => (f x).py) = decide (xs = ys)
  | [], [] => by simp [PyData.eqvAll]
  | [], _ :: _ => by simp [PyData.eqvAll]
  | _ :: _, [] => by simp [PyData.eqvAll]
  | x :: xs, y :: ys => by
    rw [List.map_cons, List.map_cons, PySem.W.eqv_all_cons, h.eq, eqvAll_map h xs ys]
    by_cases e1 : x = y <;> by_cases e2 : xs = ys <;> simp [e1, e2]
theorem lt_map (h : Emb f lt n) : ∀ xs ys : List α, PyProof.Rows.lexLt itemOrd (PySem.W.keyToksAll (xs.map fun x => (f x).py)) (PySem.W.keyToksAll (ys.map fun x => (f x).py)) = ltL lt xs ys
  | [], [] => by simp [ltL, PyProof.Rows.lex_irrefl]
  | [], y :: ys => by
    rw [List.map_cons, PySem.W.toks_all_cons]
    simp only [List.map_nil, PySem.W.keyToksAll]
    rw [lex_diff (O := itemOrd) (by simp)]
    simp [ltL, itemLt]
  | x :: xs, [] => by
    rw [List.map_cons, PySem.W.toks_all_cons]
    simp only [List.map_nil, PySem.W.keyToksAll]
    rw [lex_diff (O := itemOrd) (by simp)]
    simp [ltL, itemLt]
  | x :: xs, y :: ys => by
    rw [List.map_cons, List.map_cons]
    show _ = (if x = y then ltL lt xs ys else lt x y)
    by_cases e : x = y
    · rw [if_pos e, PySem.W.dataLt_all_yes (h.al x y) (by rw [h.eq, e]; simp)]
      exact lt_map h xs ys
    · rw [if_neg e, PySem.W.dataLt_all_no (h.al x y) (by rw [h.eq]; simp [e])]
      exact h.lt x y
theorem lay_map (h : Emb f lt n) : ∀ xs : List α, PyData.canLayAll0 (xs.map fun x => (f x).py) = true
  | [] => by simp [PyData.canLayAll0]
  | x :: xs => by rw [List.map_cons, PyData.canLayAll0, h.lay, lay_map h xs]; rfl
theorem dep_map (h : Emb f lt n) : ∀ xs : List α, PyData.depthAll (xs.map fun x => (f x).py) ≤ n
  | [] => by simp [PyData.depthAll]
  | x :: xs => by
    rw [List.map_cons, PyData.depthAll]
    have h1 := h.dep x
    have h2 := dep_map h xs
    omega
theorem Emb.list (h : Emb f lt n) : Emb (fun xs : List α => D.lst (xs.map f)) (ltL lt) (n + 1) := by
  have py : ∀ xs : List α, (D.lst (xs.map f)).py = .list (xs.map fun x => (f x).py) := fun xs => by
    show PyData.list (D.pys (xs.map f)) = _
    rw [pys_map]
  refine ⟨fun x y => ?_, fun x y => ?_, fun x y => ?_, fun x => ?_, fun x => ?_, fun x e => (by cases e), fun x l e => (by cases e)⟩
  · rw [py, py, PySem.W.alike]; exact alikeAll_map h x y
  · rw [py, py, PyData.eqv]; exact eqvAll_map h x y
  · unfold ltD; rw [py, py, PySem.W.dataLt_list]; exact lt_map h x y
  · rw [py, PyData.canLay0]; exact lay_map h x
  · rw [py, PyData.depth]
    have := dep_map h x
    omega
theorem Emb.shp (h : Emb f lt n) (hn : n ≤ 64) (x : α) : (f x).shp = true := by
  unfold D.shp SeqAt.shaped
  rw [h.lay, Bool.true_and, decide_eq_true_eq]
  have := h.dep x
  omega
theorem Emb.gEq (h : Emb f lt n) (hn : n ≤ 64) (x y : α) : gEq (f x) (f y) = some (.bl (decide (x = y))) := by
  unfold Pf.gEq
  rw [h.shp hn, h.shp hn]
  show some (D.bl _) = _
  rw [h.eq]
theorem Emb.gNe (h : Emb f lt n) (hn : n ≤ 64) (x y : α) : gNe (f x) (f y) = some (.bl (!decide (x = y))) := by
  unfold Pf.gNe
  rw [h.shp hn, h.shp hn]
  show some (D.bl _) = _
  rw [h.eq]
theorem Emb.gIn (h : Emb f lt n) (hn : n < 64) (neg : Bool) (x : α) (l : List α) : gIn neg (f x) (.lst (l.map f)) = some (.bl (if neg then !decide (x ∈ l) else decide (x ∈ l))) := by
  unfold Pf.gIn
  have h1 : gInB (f x) (.lst (l.map f)) = some (decide (x ∈ l)) := by
    have hs := h.list.shp (n := n + 1) (by omega) l
    have h0 : gInB (f x) (.lst (l.map f)) = if (f x).shp && (D.lst (l.map f)).shp then some ((l.map f).any fun z => PyData.eqv z.py (f x).py) else none := by
      unfold gInB
      rfl
    rw [h0, h.shp (by omega), hs]
    show some _ = _
    congr 1
    rw [List.any_map]
    induction l with
    | nil => rfl
    | cons y l ih =>
      rw [List.any_cons, ih (h.list.shp (n := n + 1) (by omega) l) (by unfold gInB; rfl)]
      show (PyData.eqv (f y).py (f x).py || _) = _
      rw [h.eq]
      by_cases e : y = x <;> by_cases e2 : x ∈ l <;> simp [e, e2, eq_comm]
      all_goals simp [Ne.symm e]
  rw [h1]
  rfl
def leL (lt : α → α → Bool) (x y : α) : Bool := !lt y x
theorem Emb.okSort (h : Emb f lt n) (hn : n ≤ 64) (l : List α) : okSort (l.map f) := by
  refine ⟨fun d hd e he => ?_, fun d hd => ?_, .inr fun d hd => ?_⟩
  · obtain ⟨x, _, rfl⟩ := List.mem_map.mp hd
    obtain ⟨y, _, rfl⟩ := List.mem_map.mp he
    exact h.al x y
  · obtain ⟨x, _, rfl⟩ := List.mem_map.mp hd
    exact h.shp hn x
  · obtain ⟨x, _, rfl⟩ := List.mem_map.mp hd
    exact ⟨h.nn x, h.nt x⟩
theorem Emb.sort (h : Emb f lt n) (l : List α) : sortD (l.map f) = (l.mergeSort (leL lt)).map f :=
  (List.map_mergeSort (f := f) (r := leL lt) (s := leD) fun a _ b _ => by unfold leL leD; rw [h.lt]).symm
theorem Emb.gSorted (h : Emb f lt n) (hn : n ≤ 64) (l : List α) : gSorted [.lst (l.map f)] = some (.lst ((l.mergeSort (leL lt)).map f)) := by
  rw [gSorted_l (h.okSort hn l), h.sort]
/-- the sorted list is the only one -/
theorem sorted_uniq (T : Tot lt) : ∀ {l m : List α}, l.Pairwise (fun a b => leL lt a b = true) → m.Pairwise (fun a b => leL lt a b = true) → l.Perm m → l = m
  | [], m, _, _, h => (List.Perm.nil_eq h)
  | x :: l, [], _, _, h => by cases h.length_eq
  | x :: l, y :: m, h1, h2, h => by
    have e : x = y := by
      obtain ⟨p1, q1⟩ := List.pairwise_cons.mp h1
      obtain ⟨p2, q2⟩ := List.pairwise_cons.mp h2
      rcases List.mem_cons.mp (h.mem_iff.mp List.mem_cons_self) with e | hx
      · exact e
      · rcases List.mem_cons.mp (h.mem_iff.mpr (List.mem_cons_self (a := y) (l := m))) with e | hy
        · exact e.symm
        · have a1 := p2 x hx
          have a2 := p1 y hy
          unfold leL at a1 a2
          exact T.tri x y (by simpa using a1) (by simpa using a2)
    subst e
    rw [sorted_uniq T (List.pairwise_cons.mp h1).2 (List.pairwise_cons.mp h2).2 h.cons_inv]
theorem leL_trans (T : Tot lt) (a b c : α) (h1 : leL lt a b = true) (h2 : leL lt b c = true) : leL lt a c = true := by
  unfold leL at *
  rw [Bool.not_eq_true'] at *
  cases e : lt c a with
  | false => rfl
  | true =>
    cases e1 : lt a b with
    | true => have := T.tr c a b e e1; rw [h2] at this; cases this
    | false =>
      have := T.tri a b e1 h1
      subst this
      rw [h2] at e; cases e
theorem leL_total (T : Tot lt) (a b : α) : (leL lt a b || leL lt b a) = true := by
  unfold leL
  cases e : lt b a with
  | false => rfl
  | true => rw [T.asym e]; rfl
theorem sort_pw (T : Tot lt) (l : List α) : (l.mergeSort (leL lt)).Pairwise fun a b => leL lt a b = true :=
  List.pairwise_mergeSort (leL_trans T) (leL_total T) l
theorem sort_is (T : Tot lt) {l m : List α} (h1 : m.Pairwise fun a b => leL lt a b = true) (h2 : m.Perm l) : l.mergeSort (leL lt) = m :=
  sorted_uniq T (sort_pw T l) h1 ((List.mergeSort_perm l _).trans h2.symm)
theorem sort_perm (T : Tot lt) {l m : List α} (h : l.Perm m) : l.mergeSort (leL lt) = m.mergeSort (leL lt) :=
  sort_is T (sort_pw T m) ((List.mergeSort_perm m _).trans h.symm)
end
abbrev ltI : Int → Int → Bool := fun a b => decide (a < b)
abbrev ltR : List Int → List Int → Bool := ltL ltI
abbrev ltRR : List (List Int) → List (List Int) → Bool := ltL ltR
theorem emb_row : Emb row ltR 1 := emb_int.list
theorem emb_rws : Emb rws ltRR 2 := emb_row.list
theorem tot_row : Tot ltR := tot_lst tot_int
theorem tot_rws : Tot ltRR := tot_lst tot_row
end Pf

set_option Elab.async false
set_option linter.all false
set_option maxRecDepth 100000
set_option maxHeartbeats 4000000
namespace Pf
open PySem PySem.Spec PyProof.Rows L2
def d5 (n : Nat) : Int := match n with
  | 0 => -2
  | 1 => -1
  | 2 => 0
  | 3 => 1
  | _ => 2
def dec (n : Nat) : List Int := [d5 (n / 78125 % 5), d5 (n / 15625 % 5), d5 (n / 3125 % 5), d5 (n / 625 % 5), d5 (n / 125 % 5), d5 (n / 25 % 5), d5 (n / 5 % 5), d5 (n % 5)]
def codes : List Nat := [7812, 32812, 37812, 38812, 39012, 39052, 39060, 39064, 39072, 39112, 39312, 40312, 45312, 70312, 97656, 97668, 97708, 97716, 97908, 97916, 97956, 97968, 98908, 98916, 98956, 98968, 99156, 99168, 99208, 99216, 103908, 103916, 103956, 103968, 104156, 104168, 104208, 104216, 105156, 105168, 105208, 105216, 105408, 105416, 105456, 105468, 128908, 128916, 128956, 128968, 129156, 129168, 129208, 129216, 130156, 130168, 130208, 130216, 130408, 130416, 130456, 130468, 135156, 135168, 135208, 135216, 135408, 135416, 135456, 135468, 136408, 136416, 136456, 136468, 136656, 136668, 136708, 136716, 157812, 162812, 163812, 164012, 164052, 164060, 164064, 164072, 164112, 164312, 165312, 170312, 187812, 188812, 189012, 189052, 189060, 189064, 189072, 189112, 189312, 190312, 193812, 194012, 194052, 194060, 194064, 194072, 194112, 194312, 195012, 195052, 195060, 195064, 195072, 195112, 195252, 195260, 195264, 195272, 195300, 195304, 195320, 195324, 195352, 195360, 195364, 195372, 195512, 195552, 195560, 195564, 195572, 195612, 196312, 196512, 196552, 196560, 196564, 196572, 196612, 196812, 200312, 201312, 201512, 201552, 201560, 201564, 201572, 201612, 201812, 202812, 220312, 225312, 226312, 226512, 226552, 226560, 226564, 226572, 226612, 226812, 227812, 232812, 253908, 253916, 253956, 253968, 254156, 254168, 254208, 254216, 255156, 255168, 255208, 255216, 255408, 255416, 255456, 255468, 260156, 260168, 260208, 260216, 260408, 260416, 260456, 260468, 261408, 261416, 261456, 261468, 261656, 261668, 261708, 261716, 285156, 285168, 285208, 285216, 285408, 285416, 285456, 285468, 286408, 286416, 286456, 286468, 286656, 286668, 286708, 286716, 291408, 291416, 291456, 291468, 291656, 291668, 291708, 291716, 292656, 292668, 292708, 292716, 292908, 292916, 292956, 292968, 320312, 345312, 350312, 351312, 351512, 351552, 351560, 351564, 351572, 351612, 351812, 352812, 357812, 382812]
/-- the 240 roots, ascending -/
def RT : List (List Int) := codes.map dec
def EV : List (List Int) := (List.range 8).flatMap fun j => (List.range j).flatMap fun i => [((2 : Int), (2 : Int)), (2, -2), (-2, 2), (-2, -2)].map fun p => ((List.replicate 8 (0 : Int)).set i p.1).set j p.2
def grow : Nat → List (List Int)
  | 0 => [[]]
  | n + 1 => (grow n).flatMap fun r => [r ++ [(-1 : Int)], r ++ [1]]
def OD : List (List Int) := (grow 8).filter fun r => r.sum.fmod 4 == 0
def LR : List (List Int) := ((List.range 8).flatMap fun i => (List.range (8 - (i + 1))).flatMap fun t => [(-2 : Int), 2].flatMap fun a => [(-2 : Int), 2].map fun b => ((List.replicate 8 (0 : Int)).set i a).set (i + 1 + t) b) ++
  ((List.range 256).map fun bits => (List.range 8).map fun k => 1 - 2 * (((bits >>> k) % 2 : Nat) : Int)).filter fun r => r.sum.fmod 4 == 0
def chainB (l : List (List Int)) : Bool := (l.zip l.tail).all fun p => ltR p.1 p.2
theorem RT_len : RT.length = 240 := by decide +kernel
theorem RT_chain : chainB RT = true := by decide +kernel
theorem RT_eo : RT.Perm (EV ++ OD) := by
  have : List.isPerm RT (EV ++ OD) = true := by decide +kernel
  exact List.isPerm_iff.mp this
theorem RT_lr : RT.Perm LR := by
  have : List.isPerm RT LR = true := by decide +kernel
  exact List.isPerm_iff.mp this
theorem chain_pw : ∀ l : List (List Int), chainB l = true → l.Pairwise fun a b => ltR a b = true
  | [], _ => .nil
  | [x], _ => List.pairwise_singleton _ _
  | x :: y :: r, h => by
    have h' : (ltR x y && chainB (y :: r)) = true := h
    rw [Bool.and_eq_true] at h'
    have ih := chain_pw (y :: r) h'.2
    refine List.pairwise_cons.mpr ⟨fun z hz => ?_, ih⟩
    rcases List.mem_cons.mp hz with rfl | hz
    · exact h'.1
    · exact tot_row.tr _ _ _ h'.1 ((List.pairwise_cons.mp ih).1 z hz)
theorem RT_lt : RT.Pairwise fun a b => ltR a b = true := chain_pw _ RT_chain
theorem lt_le {α : Type} [DecidableEq α] {lt : α → α → Bool} (T : Tot lt) {l : List α} (h : l.Pairwise fun a b => lt a b = true) : l.Pairwise fun a b => leL lt a b = true :=
  h.imp fun {a b} q => by unfold leL; rw [T.asym q]; rfl
theorem lt_nodup {α : Type} [DecidableEq α] {lt : α → α → Bool} (T : Tot lt) {l : List α} (h : l.Pairwise fun a b => lt a b = true) : l.Nodup :=
  h.imp fun {a b} q e => by rw [e, T.irr] at q; cases q
theorem RT_nodup : RT.Nodup := lt_nodup tot_row RT_lt
theorem RT_eo_sort : (EV ++ OD).mergeSort (leL ltR) = RT := sort_is tot_row (lt_le tot_row RT_lt) RT_eo
theorem RT_lr_sort : LR.mergeSort (leL ltR) = RT := sort_is tot_row (lt_le tot_row RT_lt) RT_lr
theorem RT_row : ∀ r ∈ RT, r.length = 8 ∧ ∀ x ∈ r, -2 ≤ x ∧ x ≤ 2 := by decide +kernel
end Pf

set_option Elab.async false
set_option linter.all false
set_option maxRecDepth 100000
set_option maxHeartbeats 4000000
namespace Pf
open PySem PySem.Spec PyProof.Rows L2

/-! ## the algebra of rows -/
def Rw (r : List Int) : Prop := r.length = 8 ∧ ∀ x ∈ r, x.natAbs ≤ 1000000
def mulS (r s : List Int) : Int := (List.zipWith (fun a b => a * b) r s).sum
def dot (r s : List Int) : Int := (mulS r s).fdiv 4
def add (r s : List Int) : List Int := List.zipWith (fun a b => a + b) r s
def smul (a : Int) (r : List Int) : List Int := r.map fun x => a * x
def less (r s : List Int) (m : Int) : List Int := List.zipWith (fun a b => a - m * b) r s
/-- the row mirrored by the root g -/
def mir (g x : List Int) : List Int := less x g (dot g x)
theorem mulS_comm : ∀ r s : List Int, mulS r s = mulS s r
  | [], [] => rfl
  | [], _ :: _ => rfl
  | _ :: _, [] => rfl
  | a :: r, b :: s => by
    have ih := mulS_comm r s
    unfold mulS at ih ⊢
    rw [List.zipWith_cons_cons, List.zipWith_cons_cons, List.sum_cons, List.sum_cons, ih, Int.mul_comm]
theorem dot_comm (r s : List Int) : dot r s = dot s r := by unfold dot; rw [mulS_comm]
theorem mulS_cons (a b : Int) (r s : List Int) : mulS (a :: r) (b :: s) = a * b + mulS r s := by unfold mulS; rw [List.zipWith_cons_cons, List.sum_cons]
theorem mulS_add : ∀ {r s t : List Int}, r.length = s.length → mulS (add r s) t = mulS r t + mulS s t
  | [], [], t, _ => by cases t <;> rfl
  | a :: r, b :: s, [], _ => by simp [mulS]
  | a :: r, b :: s, c :: t, h => by
    have ih := mulS_add (t := t) (Nat.succ.inj h : r.length = s.length)
    show mulS ((a + b) :: add r s) (c :: t) = _
    rw [mulS_cons, mulS_cons, mulS_cons, ih, Int.add_mul]
    omega
theorem mulS_smul (m : Int) : ∀ (r t : List Int), mulS (smul m r) t = m * mulS r t
  | [], t => by cases t <;> simp [mulS, smul]
  | a :: r, [] => by simp [mulS, smul]
  | a :: r, c :: t => by
    show mulS ((m * a) :: smul m r) (c :: t) = _
    rw [mulS_cons, mulS_cons, mulS_smul m r t, Int.mul_add, Int.mul_assoc]
theorem mulS_less (m : Int) : ∀ {r s t : List Int}, r.length = s.length → mulS (less r s m) t = mulS r t - m * mulS s t
  | [], [], t, _ => by cases t <;> simp [mulS, less]
  | a :: r, b :: s, [], _ => by simp [mulS]
  | a :: r, b :: s, c :: t, h => by
    have ih := mulS_less m (t := t) (Nat.succ.inj h : r.length = s.length)
    show mulS ((a - m * b) :: less r s m) (c :: t) = _
    rw [mulS_cons, mulS_cons, mulS_cons, ih, Int.sub_mul, Int.mul_add, Int.mul_assoc]
    omega
theorem mulS_less' (m : Int) {r s t : List Int} (h : r.length = s.length) : mulS t (less r s m) = mulS t r - m * mulS t s := by
  rw [mulS_comm, mulS_less m h, mulS_comm r, mulS_comm s]
theorem less_len {r s : List Int} {m : Int} (h : r.length = s.length) : (less r s m).length = r.length := by unfold less; rw [List.length_zipWith]; omega
theorem add_len {r s : List Int} (h : r.length = s.length) : (add r s).length = r.length := by unfold add; rw [List.length_zipWith]; omega
theorem smul_len {r : List Int} {m : Int} : (smul m r).length = r.length := by unfold smul; rw [List.length_map]

/-! ## what a root is -/
/-- whole rows: alike by two, the sum a multiple of 4 -/
def Lat (x : List Int) : Prop := x.length = 8 ∧ (∀ a ∈ x, (a - x.headD 0) % 2 = 0) ∧ x.sum % 4 = 0
instance (x : List Int) : Decidable (Lat x) := by unfold Lat; infer_instance
def rootB (x : List Int) : Bool := x.all (fun a => (a - x.headD 0) % 2 == 0) && x.sum % 4 == 0 && mulS x x == 8
theorem odd_roots_in : ∀ a ∈ [(-1 : Int), 1], ∀ b ∈ [(-1 : Int), 1], ∀ c ∈ [(-1 : Int), 1], ∀ d ∈ [(-1 : Int), 1], ∀ e ∈ [(-1 : Int), 1], ∀ f ∈ [(-1 : Int), 1], ∀ g ∈ [(-1 : Int), 1], ∀ h ∈ [(-1 : Int), 1],
    rootB [a, b, c, d, e, f, g, h] = true → [a, b, c, d, e, f, g, h] ∈ RT := by decide +kernel
theorem even_roots_in : ∀ a ∈ [(-2 : Int), 0, 2], ∀ b ∈ [(-2 : Int), 0, 2], ∀ c ∈ [(-2 : Int), 0, 2], ∀ d ∈ [(-2 : Int), 0, 2], ∀ e ∈ [(-2 : Int), 0, 2], ∀ f ∈ [(-2 : Int), 0, 2], ∀ g ∈ [(-2 : Int), 0, 2], ∀ h ∈ [(-2 : Int), 0, 2],
    rootB [a, b, c, d, e, f, g, h] = true → [a, b, c, d, e, f, g, h] ∈ RT := by decide +kernel
theorem RT_rootB : RT.all (fun x => rootB x) = true := by decide +kernel
theorem sq_nn (a : Int) : 0 ≤ a * a := by
  rcases Int.le_total 0 a with h | h
  · exact Int.mul_nonneg h h
  · exact Int.mul_nonneg_of_nonpos_of_nonpos h h
theorem sq_le {a : Int} (h : a * a ≤ 8) : -2 ≤ a ∧ a ≤ 2 := by
  constructor
  · rcases (show a < -2 ∨ -2 ≤ a by omega) with q | q
    · have : 3 * 3 ≤ (-a) * (-a) := Int.mul_le_mul (by omega) (by omega) (by decide) (by omega)
      rw [Int.neg_mul_neg] at this
      omega
    · exact q
  · rcases (show 2 < a ∨ a ≤ 2 by omega) with q | q
    · have : 3 * 3 ≤ a * a := Int.mul_le_mul (by omega) (by omega) (by decide) (by omega)
      omega
    · exact q
theorem mem_odd {a : Int} (h1 : -2 ≤ a) (h2 : a ≤ 2) (h3 : a % 2 = 1) : a ∈ [(-1 : Int), 1] := by
  have : a = -1 ∨ a = 1 := by omega
  rcases this with rfl | rfl <;> decide
theorem mem_even {a : Int} (h1 : -2 ≤ a) (h2 : a ≤ 2) (h3 : a % 2 = 0) : a ∈ [(-2 : Int), 0, 2] := by
  have : a = -2 ∨ a = 0 ∨ a = 2 := by omega
  rcases this with rfl | rfl | rfl <;> decide
theorem RT_of {x : List Int} (hl : x.length = 8) (h : rootB x = true) : x ∈ RT := by
  match x, hl with
  | [a, b, c, d, e, f, g, i], _ =>
    have h0 := h
    unfold rootB at h
    rw [Bool.and_eq_true, Bool.and_eq_true] at h
    obtain ⟨⟨h1, _⟩, h3⟩ := h
    have h3' : mulS [a, b, c, d, e, f, g, i] [a, b, c, d, e, f, g, i] = 8 := by simpa using h3
    have e3 : a * a + (b * b + (c * c + (d * d + (e * e + (f * f + (g * g + (i * i + 0))))))) = 8 := h3'
    have p1 := sq_nn a
    have p2 := sq_nn b
    have p3 := sq_nn c
    have p4 := sq_nn d
    have p5 := sq_nn e
    have p6 := sq_nn f
    have p7 := sq_nn g
    have p8 := sq_nn i
    obtain ⟨a1, a2⟩ := sq_le (a := a) (by omega)
    obtain ⟨b1, b2⟩ := sq_le (a := b) (by omega)
    obtain ⟨c1, c2⟩ := sq_le (a := c) (by omega)
    obtain ⟨d1, d2⟩ := sq_le (a := d) (by omega)
    obtain ⟨e1, e2⟩ := sq_le (a := e) (by omega)
    obtain ⟨f1, f2⟩ := sq_le (a := f) (by omega)
    obtain ⟨g1, g2⟩ := sq_le (a := g) (by omega)
    obtain ⟨i1, i2⟩ := sq_le (a := i) (by omega)
    clear e3 h3' h3 p1 p2 p3 p4 p5 p6 p7 p8
    have q : (a - a) % 2 = 0 ∧ (b - a) % 2 = 0 ∧ (c - a) % 2 = 0 ∧ (d - a) % 2 = 0 ∧ (e - a) % 2 = 0 ∧ (f - a) % 2 = 0 ∧ (g - a) % 2 = 0 ∧ (i - a) % 2 = 0 := by
      simpa using h1
    obtain ⟨_, q2, q3, q4, q5, q6, q7, q8⟩ := q
    by_cases ho : a % 2 = 1
    · exact odd_roots_in a (mem_odd a1 a2 ho) b (mem_odd b1 b2 (by omega)) c (mem_odd c1 c2 (by omega)) d (mem_odd d1 d2 (by omega)) e (mem_odd e1 e2 (by omega)) f (mem_odd f1 f2 (by omega)) g (mem_odd g1 g2 (by omega)) i (mem_odd i1 i2 (by omega)) h0
    · exact even_roots_in a (mem_even a1 a2 (by omega)) b (mem_even b1 b2 (by omega)) c (mem_even c1 c2 (by omega)) d (mem_even d1 d2 (by omega)) e (mem_even e1 e2 (by omega)) f (mem_even f1 f2 (by omega)) g (mem_even g1 g2 (by omega)) i (mem_even i1 i2 (by omega)) h0
/-- a root: so and no otherwise -/
theorem RT_iff {x : List Int} : x ∈ RT ↔ x.length = 8 ∧ rootB x = true :=
  ⟨fun h => ⟨(RT_row x h).1, List.all_eq_true.mp RT_rootB x h⟩, fun h => RT_of h.1 h.2⟩
theorem RT_sq {x : List Int} (h : x ∈ RT) : mulS x x = 8 := by
  have := (RT_iff.mp h).2
  unfold rootB at this
  rw [Bool.and_eq_true] at this
  simpa using this.2
theorem RT_rw {r : List Int} (h : r ∈ RT) : Rw r := ⟨(RT_row r h).1, fun x hx => by have := (RT_row r h).2 x hx; omega⟩
theorem RT_l8 {r : List Int} (h : r ∈ RT) : r.length = 8 := (RT_row r h).1
/-! ## whole rows -/
theorem sq_mod (a : Int) : (a * a) % 8 = if a % 2 = 0 then (2 * a) % 8 else 1 := by
  have h : (a * a) % 8 = ((a % 8) * (a % 8)) % 8 := Int.mul_emod a a 8
  have h2 : (2 * a) % 8 = (2 * (a % 8)) % 8 := by omega
  have h3 : a % 2 = (a % 8) % 2 := by omega
  rw [h, h2, h3]
  have b1 := Int.emod_nonneg a (show (8 : Int) ≠ 0 by decide)
  have b2 := Int.emod_lt_of_pos a (show (0 : Int) < 8 by decide)
  generalize a % 8 = t at b1 b2
  have : t = 0 ∨ t = 1 ∨ t = 2 ∨ t = 3 ∨ t = 4 ∨ t = 5 ∨ t = 6 ∨ t = 7 := by omega
  rcases this with rfl | rfl | rfl | rfl | rfl | rfl | rfl | rfl <;> decide
theorem Lat.ev8 {a b c d e f g i : Int} (h : Lat [a, b, c, d, e, f, g, i]) : (b - a) % 2 = 0 ∧ (c - a) % 2 = 0 ∧ (d - a) % 2 = 0 ∧ (e - a) % 2 = 0 ∧ (f - a) % 2 = 0 ∧ (g - a) % 2 = 0 ∧ (i - a) % 2 = 0 ∧ (a + (b + (c + (d + (e + (f + (g + i))))))) % 4 = 0 := by
  obtain ⟨_, h1, h2⟩ := h
  have q : (a - a) % 2 = 0 ∧ (b - a) % 2 = 0 ∧ (c - a) % 2 = 0 ∧ (d - a) % 2 = 0 ∧ (e - a) % 2 = 0 ∧ (f - a) % 2 = 0 ∧ (g - a) % 2 = 0 ∧ (i - a) % 2 = 0 := by simpa using h1
  have h2' : (a + (b + (c + (d + (e + (f + (g + (i + 0)))))))) % 4 = 0 := h2
  obtain ⟨_, q2, q3, q4, q5, q6, q7, q8⟩ := q
  exact ⟨q2, q3, q4, q5, q6, q7, q8, by omega⟩
theorem Lat.of8 {a b c d e f g i : Int} (h : (b - a) % 2 = 0 ∧ (c - a) % 2 = 0 ∧ (d - a) % 2 = 0 ∧ (e - a) % 2 = 0 ∧ (f - a) % 2 = 0 ∧ (g - a) % 2 = 0 ∧ (i - a) % 2 = 0 ∧ (a + (b + (c + (d + (e + (f + (g + i))))))) % 4 = 0) : Lat [a, b, c, d, e, f, g, i] := by
  obtain ⟨q2, q3, q4, q5, q6, q7, q8, q9⟩ := h
  refine ⟨rfl, ?_, ?_⟩
  · have : (a - a) % 2 = 0 ∧ (b - a) % 2 = 0 ∧ (c - a) % 2 = 0 ∧ (d - a) % 2 = 0 ∧ (e - a) % 2 = 0 ∧ (f - a) % 2 = 0 ∧ (g - a) % 2 = 0 ∧ (i - a) % 2 = 0 := ⟨by omega, q2, q3, q4, q5, q6, q7, q8⟩
    simpa using this
  · show (a + (b + (c + (d + (e + (f + (g + (i + 0)))))))) % 4 = 0
    omega
theorem Lat.sq {x : List Int} (h : Lat x) : mulS x x % 8 = 0 := by
  match x, h.1, h with
  | [a, b, c, d, e, f, g, i], _, h =>
    obtain ⟨q2, q3, q4, q5, q6, q7, q8, q9⟩ := h.ev8
    show (a * a + (b * b + (c * c + (d * d + (e * e + (f * f + (g * g + (i * i + 0)))))))) % 8 = 0
    have m1 := sq_mod a
    have m2 := sq_mod b
    have m3 := sq_mod c
    have m4 := sq_mod d
    have m5 := sq_mod e
    have m6 := sq_mod f
    have m7 := sq_mod g
    have m8 := sq_mod i
    by_cases ho : a % 2 = 0
    · rw [if_pos (by omega)] at m1 m2 m3 m4 m5 m6 m7 m8
      omega
    · rw [if_neg (by omega)] at m1 m2 m3 m4 m5 m6 m7 m8
      omega
theorem Lat.add {x y : List Int} (hx : Lat x) (hy : Lat y) : Lat (add x y) := by
  match x, hx.1, hx, y, hy.1, hy with
  | [a, b, c, d, e, f, g, i], _, hx, [a', b', c', d', e', f', g', i'], _, hy =>
    obtain ⟨q2, q3, q4, q5, q6, q7, q8, q9⟩ := hx.ev8
    obtain ⟨r2, r3, r4, r5, r6, r7, r8, r9⟩ := hy.ev8
    show Lat [a + a', b + b', c + c', d + d', e + e', f + f', g + g', i + i']
    exact Lat.of8 ⟨by omega, by omega, by omega, by omega, by omega, by omega, by omega, by omega⟩
theorem mul_ev {m a : Int} (h : a % 2 = 0) : (m * a) % 2 = 0 := by rw [Int.mul_emod, h]; simp
theorem Lat.smul {x : List Int} (m : Int) (hx : Lat x) : Lat (smul m x) := by
  match x, hx.1, hx with
  | [a, b, c, d, e, f, g, i], _, hx =>
    obtain ⟨q2, q3, q4, q5, q6, q7, q8, q9⟩ := hx.ev8
    have s : ∀ u : Int, (u - a) % 2 = 0 → (m * u - m * a) % 2 = 0 := fun u hu => by rw [← Int.mul_sub]; exact mul_ev hu
    refine Lat.of8 ⟨s b q2, s c q3, s d q4, s e q5, s f q6, s g q7, s i q8, ?_⟩
    have : m * a + (m * b + (m * c + (m * d + (m * e + (m * f + (m * g + m * i)))))) = m * (a + (b + (c + (d + (e + (f + (g + i))))))) := by simp only [Int.mul_add]
    rw [this, Int.mul_emod, q9]; simp
theorem less_eq {x g : List Int} {m : Int} : ∀ {x g : List Int}, less x g m = Pf.add x (Pf.smul (-m) g)
  | [], [] => rfl
  | [], _ :: _ => rfl
  | _ :: _, [] => rfl
  | a :: x, b :: g => by
    show (a - m * b) :: less x g m = (a + (-m) * b) :: Pf.add x (Pf.smul (-m) g)
    rw [less_eq (x := x) (g := g), Int.neg_mul, Int.sub_eq_add_neg]
    all_goals assumption
theorem Lat.less {x y : List Int} (m : Int) (hx : Lat x) (hy : Lat y) : Lat (less x y m) := by
  rw [less_eq (x := x) (g := y)]
  exact hx.add (hy.smul _)
theorem Lat.mul {x y : List Int} (hx : Lat x) (hy : Lat y) : mulS x y % 4 = 0 := by
  have h := (hx.add hy).sq
  have hl : x.length = y.length := by rw [hx.1, hy.1]
  rw [mulS_add hl, mulS_comm x, mulS_comm y (Pf.add x y), mulS_add hl, mulS_add hl, mulS_comm y x] at h
  have h1 := hx.sq
  have h2 := hy.sq
  omega
theorem Lat.dot {x y : List Int} (hx : Lat x) (hy : Lat y) : mulS x y = 4 * dot x y := by
  have h := hx.mul hy
  unfold Pf.dot
  rw [Int.fdiv_eq_ediv_of_nonneg _ (by decide)]
  omega
theorem RT_lat {x : List Int} (h : x ∈ RT) : Lat x := by
  have hr := (RT_iff.mp h).2
  unfold rootB at hr
  rw [Bool.and_eq_true, Bool.and_eq_true, List.all_eq_true] at hr
  refine ⟨RT_l8 h, fun a ha => by simpa using hr.1.1 a ha, by simpa using hr.1.2⟩
theorem RT_mk {x : List Int} (h : Lat x) (h2 : mulS x x = 8) : x ∈ RT := by
  refine RT_of h.1 ?_
  unfold rootB
  rw [Bool.and_eq_true, Bool.and_eq_true, List.all_eq_true]
  exact ⟨⟨fun a ha => by simpa using h.2.1 a ha, by simpa using h.2.2⟩, by simpa using h2⟩
end Pf

set_option Elab.async false
set_option linter.all false
set_option maxRecDepth 100000
set_option maxHeartbeats 4000000
namespace Pf
open PySem PySem.Spec PyProof.Rows L2

/-! ## mirrors -/
theorem mir_lat {g x : List Int} (hg : g ∈ RT) (hx : Lat x) : Lat (mir g x) := hx.less _ (RT_lat hg)
theorem mulS_mir1 {g x y : List Int} (hg : g ∈ RT) (hx : Lat x) : mulS (mir g x) y = mulS x y - dot g x * mulS g y := mulS_less _ (by rw [hx.1, RT_l8 hg])
theorem mulS_mir {g x y : List Int} (hg : g ∈ RT) (hx : Lat x) (hy : Lat y) : mulS (mir g x) (mir g y) = mulS x y := by
  rw [mulS_mir1 hg hx, mulS_comm x, mulS_comm g (mir g y), mulS_mir1 hg hy, mulS_mir1 hg hy, RT_sq hg]
  have h1 := (RT_lat hg).dot hx
  have h2 := (RT_lat hg).dot hy
  rw [mulS_comm y x, mulS_comm y g, h1, h2]
  generalize dot g x = c
  generalize dot g y = d
  rw [show c * (4 * d - d * 8) = -(4 * (c * d)) by rw [Int.mul_sub, ← Int.mul_assoc, ← Int.mul_assoc, Int.mul_comm c 4, Int.mul_assoc 4 c d, Int.mul_comm (c * d) 8]; omega]
  rw [show d * (4 * c) = 4 * (c * d) by rw [← Int.mul_assoc, Int.mul_comm d 4, Int.mul_assoc, Int.mul_comm d c]]
  omega
theorem dot_of {x y : List Int} {k : Int} (hx : Lat x) (hy : Lat y) (h : mulS x y = 4 * k) : dot x y = k := by
  have := hx.dot hy
  omega
theorem dot_mir {g x y : List Int} (hg : g ∈ RT) (hx : Lat x) (hy : Lat y) : dot (mir g x) (mir g y) = dot x y := by
  unfold dot; rw [mulS_mir hg hx hy]
theorem mir_RT {g x : List Int} (hg : g ∈ RT) (hx : x ∈ RT) : mir g x ∈ RT :=
  RT_mk (mir_lat hg (RT_lat hx)) (by rw [mulS_mir hg (RT_lat hx) (RT_lat hx), RT_sq hx])
theorem less_less : ∀ {x g : List Int} {m : Int}, x.length = g.length → less (less x g m) g (-m) = x
  | [], [], _, _ => rfl
  | a :: x, b :: g, m, h => by
    show ((a - m * b) - (-m) * b) :: less (less x g m) g (-m) = a :: x
    rw [less_less (Nat.succ.inj h : x.length = g.length), Int.neg_mul]
    congr 1
    omega
theorem mir_mir {g x : List Int} (hg : g ∈ RT) (hx : Lat x) : mir g (mir g x) = x := by
  have hd : dot g (mir g x) = -dot g x := by
    refine dot_of (RT_lat hg) (mir_lat hg hx) ?_
    rw [mulS_comm, mulS_mir1 hg hx, mulS_comm x g, RT_sq hg, (RT_lat hg).dot hx]
    omega
  unfold mir at hd ⊢
  rw [hd]
  exact less_less (by rw [hx.1, RT_l8 hg])
theorem map_nodup {α β : Type} {f : α → β} {l : List α} (h : l.Nodup) (hf : ∀ a ∈ l, ∀ b ∈ l, f a = f b → a = b) : (l.map f).Nodup := by
  refine List.pairwise_map.mpr (List.Pairwise.imp_of_mem (fun {a b} ha hb hne e => hne (hf a ha b hb e)) h)
theorem mir_perm {g : List Int} (hg : g ∈ RT) : (RT.map (mir g)).Perm RT := by
  refine (List.perm_ext_iff_of_nodup (map_nodup RT_nodup fun a ha b hb e => ?_) RT_nodup).mpr fun x => ⟨fun h => ?_, fun h => ?_⟩
  · rw [← mir_mir hg (RT_lat ha), e, mir_mir hg (RT_lat hb)]
  · obtain ⟨y, hy, rfl⟩ := List.mem_map.mp h
    exact mir_RT hg hy
  · exact List.mem_map.mpr ⟨mir g x, mir_RT hg h, mir_mir hg (RT_lat h)⟩
/-- counts don't see mirrors -/
theorem count_mir {g : List Int} (hg : g ∈ RT) (P Q : List Int → Bool) (h : ∀ x ∈ RT, P (mir g x) = Q x) : RT.countP P = RT.countP Q := by
  rw [← (mir_perm hg).countP_eq P, List.countP_map]
  refine List.countP_congr fun x hx => ?_
  show P (mir g x) = true ↔ Q x = true
  rw [h x hx]
/-! ## from one to the others -/
theorem diff_root {r k : List Int} (hr : r ∈ RT) (hk : k ∈ RT) (h : mulS r k = 4) : less r k 1 ∈ RT ∧ mir (less r k 1) r = k := by
  have hl : r.length = k.length := by rw [RT_l8 hr, RT_l8 hk]
  have hL := (RT_lat hr).less 1 (RT_lat hk)
  have h1 : mulS (less r k 1) r = 4 := by rw [mulS_less 1 hl, RT_sq hr, mulS_comm k r, h]; rfl
  have hg : less r k 1 ∈ RT := RT_mk hL (by rw [mulS_less 1 hl, mulS_less' 1 hl, mulS_less' 1 hl, RT_sq hr, RT_sq hk, mulS_comm k r, h]; rfl)
  refine ⟨hg, ?_⟩
  unfold mir
  rw [dot_of hL (RT_lat hr) (k := 1) (by rw [h1]; rfl)]
  clear hL h1 hg h
  have : ∀ {r k : List Int}, r.length = k.length → less r (less r k 1) 1 = k := by
    intro r
    induction r with
    | nil => intro k h; cases k <;> first | rfl | cases h
    | cons a r ih =>
      intro k h
      cases k with
      | nil => cases h
      | cons b k =>
        show (a - 1 * (a - 1 * b)) :: less r (less r k 1) 1 = b :: k
        rw [ih (Nat.succ.inj h)]
        congr 1
        omega
  exact this hl
/-- what comes from s0 by steps of product 1 within F -/
def lev (F : List (List Int)) (s0 : List Int) : Nat → List (List Int)
  | 0 => [s0]
  | n + 1 => F.filter fun s => (lev F s0 n).any fun k => mulS s k == 4
theorem lev_ind {F : List (List Int)} {s0 : List Int} {Q : List Int → Prop} (hs : s0 ∈ F) (h0 : Q s0) (hstep : ∀ s ∈ F, ∀ k ∈ F, mulS s k = 4 → Q k → Q s) : ∀ n, ∀ s ∈ lev F s0 n, s ∈ F ∧ Q s
  | 0, s, h => by rw [List.mem_singleton.mp h]; exact ⟨hs, h0⟩
  | n + 1, s, h => by
    obtain ⟨h1, h2⟩ := List.mem_filter.mp h
    obtain ⟨k, hk, e⟩ := List.any_eq_true.mp h2
    obtain ⟨k1, k2⟩ := lev_ind hs h0 hstep n k hk
    exact ⟨h1, hstep s h1 k k1 (by simpa using e) k2⟩
def r0 : List Int := [2, 2, 0, 0, 0, 0, 0, 0]
def s0 : List Int := [-2, 0, 2, 0, 0, 0, 0, 0]
def F0 : List (List Int) := RT.filter fun s => mulS r0 s == -4
theorem r0_in : r0 ∈ RT := by decide +kernel
theorem s0_in : s0 ∈ F0 := by decide +kernel
theorem RT_lev : RT.all (fun r => (lev RT r0 2).contains r || (lev RT r0 1).contains r || (lev RT r0 3).contains r || r == r0) = true := by decide +kernel
theorem F0_lev : F0.all (fun r => (lev F0 s0 2).contains r || (lev F0 s0 1).contains r || (lev F0 s0 3).contains r || r == s0) = true := by decide +kernel
theorem lev_all {F : List (List Int)} {s0 : List Int} (hc : F.all (fun r => (lev F s0 2).contains r || (lev F s0 1).contains r || (lev F s0 3).contains r || r == s0) = true) {Q : List Int → Prop} (hs : s0 ∈ F) (h0 : Q s0) (hstep : ∀ s ∈ F, ∀ k ∈ F, mulS s k = 4 → Q k → Q s) : ∀ r ∈ F, Q r := by
  intro r hr
  have h := List.all_eq_true.mp hc r hr
  simp only [Bool.or_eq_true, List.contains_iff_mem, beq_iff_eq] at h
  rcases h with ((h | h) | h) | h
  · exact (lev_ind hs h0 hstep 2 r h).2
  · exact (lev_ind hs h0 hstep 1 r h).2
  · exact (lev_ind hs h0 hstep 3 r h).2
  · rw [h]; exact h0
/-- what mirrors keep, from one root to all -/
theorem root_ind {Q : List Int → Prop} (h0 : Q r0) (hQ : ∀ g ∈ RT, ∀ r ∈ RT, Q (mir g r) → Q r) : ∀ r ∈ RT, Q r :=
  lev_all RT_lev r0_in h0 fun s hs k hk h q => by
    obtain ⟨g1, g2⟩ := diff_root hs hk h
    exact hQ _ g1 s hs (by rw [g2]; exact q)
theorem F0_mem {s : List Int} : s ∈ F0 ↔ s ∈ RT ∧ mulS r0 s = -4 := by
  unfold F0
  rw [List.mem_filter]
  simp
/-- what mirrors keep, from one pair of product -1 to all -/
theorem pair_ind {Q : List Int → List Int → Prop} (h0 : Q r0 s0) (hQ : ∀ g ∈ RT, ∀ r ∈ RT, ∀ s ∈ RT, Q (mir g r) (mir g s) → Q r s) : ∀ r ∈ RT, ∀ s ∈ RT, mulS r s = -4 → Q r s := by
  have base : ∀ s ∈ F0, Q r0 s := lev_all F0_lev s0_in h0 fun s hs k hk h q => by
    obtain ⟨s1, s2⟩ := F0_mem.mp hs
    obtain ⟨k1, k2⟩ := F0_mem.mp hk
    obtain ⟨g1, g2⟩ := diff_root s1 k1 h
    refine hQ _ g1 r0 r0_in s s1 ?_
    have e : mir (less s k 1) r0 = r0 := by
      have hd : dot (less s k 1) r0 = 0 := dot_of (RT_lat g1) (RT_lat r0_in) (by rw [mulS_less 1 (by rw [RT_l8 s1, RT_l8 k1]), mulS_comm s, mulS_comm k, s2, k2]; rfl)
      unfold mir
      rw [hd]
      have : ∀ {x g : List Int}, x.length = g.length → less x g 0 = x := by
        intro x
        induction x with
        | nil => intro g _; cases g <;> rfl
        | cons a x ih =>
          intro g h
          cases g with
          | nil => cases h
          | cons b g =>
            show (a - 0 * b) :: less x g 0 = _
            rw [ih (Nat.succ.inj h), Int.zero_mul, Int.sub_zero]
      exact this (by rw [RT_l8 r0_in, RT_l8 g1])
    rw [e, g2]
    exact q
  refine root_ind (Q := fun r => ∀ s ∈ RT, mulS r s = -4 → Q r s) (fun s hs h => base s (F0_mem.mpr ⟨hs, h⟩)) fun g hg r hr q s hs h => ?_
  exact hQ g hg r hr s hs (q (mir g s) (mir_RT hg hs) (by rw [mulS_mir hg (RT_lat hr) (RT_lat hs), h]))
/-- 56 have the product -1 with a root -/
theorem count56 : ∀ r ∈ RT, RT.countP (fun s => mulS s r == -4) = 56 :=
  root_ind (by decide +kernel) fun g hg r hr q => by
    rw [← q]
    exact (count_mir hg _ _ fun x hx => by rw [mulS_mir hg (RT_lat hx) (RT_lat hr)]).symm
def S0 : List (List Int) := RT.filter fun x => mulS x r0 == 0 && mulS x s0 == 0
theorem S0_72 : S0.length = 72 := by decide +kernel
theorem S0_20 : S0.all (fun x => S0.countP (fun y => mulS y x == -4) == 20) = true := by decide +kernel
/-- 72 have the product 0 with both of a pair, each of these -1 with 20 others -/
theorem count72 : ∀ r ∈ RT, ∀ s ∈ RT, mulS r s = -4 → RT.countP (fun x => mulS x r == 0 && mulS x s == 0) = 72 ∧ ∀ x ∈ RT, mulS x r = 0 → mulS x s = 0 → RT.countP (fun y => mulS y x == -4 && (mulS y r == 0 && mulS y s == 0)) = 20 := by
  refine pair_ind ⟨?_, fun x hx h1 h2 => ?_⟩ fun g hg r hr s hs q => ⟨?_, fun x hx h1 h2 => ?_⟩
  · rw [List.countP_eq_length_filter]; exact S0_72
  · have hx0 : x ∈ S0 := List.mem_filter.mpr ⟨hx, by simp [h1, h2]⟩
    have := List.all_eq_true.mp S0_20 x hx0
    have e := beq_iff_eq.mp this
    unfold S0 at e
    rw [List.countP_filter] at e
    exact e
  · rw [← q.1]
    exact (count_mir hg _ _ fun x hx => by rw [mulS_mir hg (RT_lat hx) (RT_lat hr), mulS_mir hg (RT_lat hx) (RT_lat hs)]).symm
  · have := q.2 (mir g x) (mir_RT hg hx) (by rw [mulS_mir hg (RT_lat hx) (RT_lat hr), h1]) (by rw [mulS_mir hg (RT_lat hx) (RT_lat hs), h2])
    rw [← this]
    exact (count_mir hg _ _ fun y hy => by rw [mulS_mir hg (RT_lat hy) (RT_lat hr), mulS_mir hg (RT_lat hy) (RT_lat hs), mulS_mir hg (RT_lat hy) (RT_lat hx)]).symm
end Pf

set_option Elab.async false
set_option linter.all false
set_option maxRecDepth 100000
set_option maxHeartbeats 4000000
namespace Pf
open PySem PySem.Spec PyProof.Rows L2

/-! ## sorted, each once -/
def ostep {α : Type} [DecidableEq α] (acc : List α) (x : α) : List α := if acc.getLast? = some x then acc else acc ++ [x]
def once {α : Type} [DecidableEq α] (lt : α → α → Bool) (l : List α) : List α := (l.mergeSort (leL lt)).foldl ostep []
section
variable {α : Type} [DecidableEq α] {lt : α → α → Bool}
theorem ostep_len (acc : List α) (x : α) : (ostep acc x).length ≤ acc.length + 1 := by
  unfold ostep
  split
  · omega
  · simp
theorem ofold_len : ∀ (l acc : List α), (l.foldl ostep acc).length ≤ acc.length + l.length
  | [], acc => by simp
  | x :: l, acc => by
    rw [List.foldl_cons]
    have h1 := ofold_len l (ostep acc x)
    have h2 := ostep_len acc x
    rw [List.length_cons]
    omega
theorem ostep_mem {acc : List α} {x y : α} : y ∈ ostep acc x ↔ y ∈ acc ∨ y = x := by
  unfold ostep
  split
  · rename_i h
    have hx : x ∈ acc := List.mem_of_getLast? h
    constructor
    · exact .inl
    · rintro (h | rfl)
      · exact h
      · exact hx
  · simp
theorem ofold_mem : ∀ (l acc : List α) (y : α), y ∈ l.foldl ostep acc ↔ y ∈ acc ∨ y ∈ l
  | [], acc, y => by simp
  | x :: l, acc, y => by
    rw [List.foldl_cons, ofold_mem l _ y, ostep_mem, List.mem_cons, or_assoc]
theorem ofold_pw (T : Tot lt) : ∀ (l acc : List α), acc.Pairwise (fun a b => lt a b = true) → (∀ a ∈ acc, ∀ b ∈ l, leL lt a b = true) → l.Pairwise (fun a b => leL lt a b = true) → (∀ a ∈ acc, acc.getLast? = some a ∨ ∀ b ∈ l, lt a b = true) → (l.foldl ostep acc).Pairwise fun a b => lt a b = true
  | [], acc, h, _, _, _ => h
  | x :: l, acc, h, h1, h2, h3 => by
    rw [List.foldl_cons]
    obtain ⟨p1, p2⟩ := List.pairwise_cons.mp h2
    unfold ostep
    by_cases e : acc.getLast? = some x
    · rw [if_pos e]
      refine ofold_pw T l acc h (fun a ha b hb => h1 a ha b (List.mem_cons_of_mem _ hb)) p2 fun a ha => ?_
      rcases h3 a ha with q | q
      · exact .inl q
      · exact .inr fun b hb => q b (List.mem_cons_of_mem _ hb)
    · rw [if_neg e]
      have lx : ∀ a ∈ acc, lt a x = true := fun a ha => by
        rcases h3 a ha with q | q
        · have hle := h1 a ha x List.mem_cons_self
          cases hh : lt a x with
          | true => rfl
          | false =>
            unfold leL at hle
            have := T.tri a x hh (by simpa using hle)
            rw [this] at q
            exact absurd q e
        · exact q x List.mem_cons_self
      refine ofold_pw T l (acc ++ [x]) (List.pairwise_append.mpr ⟨h, List.pairwise_singleton _ _, fun a ha b hb => by rw [List.mem_singleton.mp hb]; exact lx a ha⟩) (fun a ha b hb => ?_) p2 fun a ha => ?_
      · rcases List.mem_append.mp ha with ha | ha
        · exact h1 a ha b (List.mem_cons_of_mem _ hb)
        · rw [List.mem_singleton.mp ha]; exact p1 b hb
      · rcases List.mem_append.mp ha with ha | ha
        · refine .inr fun b hb => ?_
          have hxb := p1 b hb
          cases hh : lt a b with
          | true => rfl
          | false =>
            unfold leL at hxb
            rw [Bool.not_eq_true'] at hxb
            cases hh2 : lt b a with
            | true => have := T.tr b a x hh2 (lx a ha); rw [hxb] at this; cases this
            | false =>
              have := T.tri a b hh hh2
              subst this
              have := lx a ha
              rw [hxb] at this; cases this
        · rw [List.mem_singleton.mp ha]
          exact .inl (by simp)
theorem once_pw (T : Tot lt) (l : List α) : (once lt l).Pairwise fun a b => lt a b = true :=
  ofold_pw T _ [] .nil (fun a ha => by cases ha) (sort_pw T l) fun a ha => by cases ha
theorem once_mem (l : List α) (y : α) : y ∈ once lt l ↔ y ∈ l := by
  unfold once
  rw [ofold_mem]
  simp [(List.mergeSort_perm l _).mem_iff]
theorem once_len (l : List α) : (once lt l).length ≤ l.length := by
  have := ofold_len (l.mergeSort (leL lt)) []
  unfold once
  rw [(List.mergeSort_perm l _).length_eq] at this
  simpa using this
/-- strictly ascending lists of the same items are one -/
theorem asc_uniq (T : Tot lt) {l m : List α} (h1 : l.Pairwise fun a b => lt a b = true) (h2 : m.Pairwise fun a b => lt a b = true) (h : ∀ x, x ∈ l ↔ x ∈ m) : l = m :=
  sorted_uniq T (lt_le T h1) (lt_le T h2) ((List.perm_ext_iff_of_nodup (lt_nodup T h1) (lt_nodup T h2)).mpr h)
theorem once_asc (T : Tot lt) {l : List α} (h : l.Pairwise fun a b => lt a b = true) : once lt l = l :=
  asc_uniq T (once_pw T l) h fun x => once_mem l x
theorem once_congr (T : Tot lt) {l m : List α} (h : ∀ x, x ∈ l ↔ x ∈ m) : once lt l = once lt m :=
  asc_uniq T (once_pw T l) (once_pw T m) fun x => by rw [once_mem, once_mem, h]
/-- a function that has the same value at two items each -/
theorem once_half {β : Type} [DecidableEq β] {ltb : β → β → Bool} (T : Tot lt) (Tb : Tot ltb) {l : List α} {τ : α → α} {h : α → β} (hn : l.Nodup) (h1 : ∀ s ∈ l, τ s ∈ l) (h2 : ∀ s ∈ l, τ (τ s) = s) (h3 : ∀ s ∈ l, τ s ≠ s)
    (h4 : ∀ s ∈ l, ∀ t ∈ l, h s = h t ↔ t = s ∨ t = τ s) : 2 * (once ltb (l.map h)).length = l.length := by
  have hτ : (l.map τ).Perm l := by
    refine (List.perm_ext_iff_of_nodup (map_nodup hn fun a ha b hb e => by rw [← h2 a ha, e, h2 b hb]) hn).mpr fun x => ⟨fun hx => ?_, fun hx => ?_⟩
    · obtain ⟨y, hy, rfl⟩ := List.mem_map.mp hx
      exact h1 y hy
    · exact List.mem_map.mpr ⟨τ x, h1 x hx, h2 x hx⟩
  have e1 : (once ltb (l.map h)).length = (l.filter fun s => lt s (τ s)).length := by
    have nd : ((l.filter fun s => lt s (τ s)).map h).Nodup := by
      refine map_nodup (hn.sublist List.filter_sublist) fun a ha b hb e => ?_
      obtain ⟨ha1, ha2⟩ := List.mem_filter.mp ha
      obtain ⟨hb1, hb2⟩ := List.mem_filter.mp hb
      rcases (h4 a ha1 b hb1).mp e with q | q
      · exact q.symm
      · rw [q, h2 a ha1] at hb2
        have := T.asym ha2
        rw [hb2] at this
        cases this
    have pm : (once ltb (l.map h)).Perm ((l.filter fun s => lt s (τ s)).map h) := by
      refine (List.perm_ext_iff_of_nodup (lt_nodup Tb (once_pw Tb _)) nd).mpr fun y => ?_
      rw [once_mem]
      constructor
      · intro hy
        obtain ⟨s, hs, rfl⟩ := List.mem_map.mp hy
        by_cases q : lt s (τ s) = true
        · exact List.mem_map.mpr ⟨s, List.mem_filter.mpr ⟨hs, q⟩, rfl⟩
        · have q2 : lt (τ s) s = true := by
            cases hh : lt (τ s) s with
            | true => rfl
            | false => exact absurd (T.tri _ _ hh (by simpa using q)) (h3 s hs)
          exact List.mem_map.mpr ⟨τ s, List.mem_filter.mpr ⟨h1 s hs, by rw [h2 s hs]; exact q2⟩, ((h4 s hs (τ s) (h1 s hs)).mpr (.inr rfl)).symm⟩
      · intro hy
        obtain ⟨s, hs, rfl⟩ := List.mem_map.mp hy
        exact List.mem_map.mpr ⟨s, (List.mem_filter.mp hs).1, rfl⟩
    rw [pm.length_eq, List.length_map]
  have e2 : l.countP (fun s => lt s (τ s)) = l.countP (fun s => lt (τ s) s) := by
    rw [← hτ.countP_eq (fun s => lt s (τ s)), List.countP_map]
    refine List.countP_congr fun x hx => ?_
    show lt (τ x) (τ (τ x)) = true ↔ _
    rw [h2 x hx]
  have e3 : l.countP (fun s => lt (τ s) s) = l.countP (fun s => !lt s (τ s)) := by
    refine List.countP_congr fun x hx => ?_
    cases q : lt x (τ x) with
    | true => rw [T.asym q]; rfl
    | false =>
      cases hh : lt (τ x) x with
      | true => exact ⟨fun _ => rfl, fun _ => rfl⟩
      | false => exact absurd (T.tri _ _ hh q) (h3 x hx)
  rw [e1, ← List.countP_eq_length_filter]
  have e4 := List.length_eq_countP_add_countP (fun s => lt s (τ s)) (l := l)
  have e5 : l.countP (fun s => !lt s (τ s)) = l.countP (fun a => decide ¬lt a (τ a) = true) := List.countP_congr fun x _ => by simp
  omega
end
/-- counting pairs from both sides -/
theorem count_both {α β : Type} (R : α → β → Bool) : ∀ (l : List α) (m : List β), (l.map fun a => m.countP (R a)).sum = (m.map fun b => l.countP fun a => R a b).sum
  | [], m => by
    have : (m.map fun b => ([] : List α).countP fun a => R a b) = m.map fun _ => 0 := List.map_congr_left fun _ _ => rfl
    rw [this]
    induction m with
    | nil => rfl
    | cons b m ih => simpa using ih rfl
  | a :: l, m => by
    rw [List.map_cons, List.sum_cons, count_both R l m]
    have : ∀ m : List β, m.countP (R a) + (m.map fun b => l.countP fun a => R a b).sum = (m.map fun b => (a :: l).countP fun a => R a b).sum := by
      intro m
      induction m with
      | nil => rfl
      | cons b m ih =>
        rw [List.map_cons, List.map_cons, List.sum_cons, List.sum_cons, ← ih, List.countP_cons, List.countP_cons]
        omega
    exact this m
theorem sum_const {α : Type} {f : α → Nat} {n : Nat} : ∀ {l : List α}, (∀ a ∈ l, f a = n) → (l.map f).sum = l.length * n
  | [], _ => by simp
  | a :: l, h => by
    rw [List.map_cons, List.sum_cons, h a List.mem_cons_self, sum_const fun b hb => h b (List.mem_cons_of_mem _ hb), List.length_cons, Nat.succ_mul]
    omega
end Pf

set_option Elab.async false
set_option linter.all false
set_option maxRecDepth 100000
set_option maxHeartbeats 4000000
namespace Pf
open PySem PySem.Spec PyProof.Rows L2

/-! ## roots of product 0 -/
theorem less_zero : ∀ {x g : List Int}, x.length = g.length → less x g 0 = x
  | [], [], _ => rfl
  | a :: x, b :: g, h => by
    show (a - 0 * b) :: less x g 0 = a :: x
    rw [less_zero (Nat.succ.inj h : x.length = g.length), Int.zero_mul, Int.sub_zero]
theorem mir_fix {g x : List Int} (hg : g ∈ RT) (hx : Lat x) (h : mulS g x = 0) : mir g x = x := by
  unfold mir
  rw [dot_of (RT_lat hg) hx (k := 0) (by rw [h]; rfl)]
  exact less_zero (by rw [hx.1, RT_l8 hg])
/-- the roots of product 0 with those of A -/
def osq (A : List (List Int)) : List (List Int) := RT.filter fun x => A.all fun a => mulS a x == 0
theorem osq_mem {A : List (List Int)} {x : List Int} : x ∈ osq A ↔ x ∈ RT ∧ ∀ a ∈ A, mulS a x = 0 := by
  unfold osq
  rw [List.mem_filter, List.all_eq_true]
  simp
theorem osq_ind {A : List (List Int)} {s0 : List Int} (hA : ∀ a ∈ A, Lat a) (hc : (osq A).all (fun r => (lev (osq A) s0 2).contains r || (lev (osq A) s0 1).contains r || (lev (osq A) s0 3).contains r || r == s0) = true) (hs : s0 ∈ osq A)
    {Q : List Int → Prop} (h0 : Q s0) (hQ : ∀ g ∈ RT, (∀ a ∈ A, mir g a = a) → ∀ x ∈ RT, Q (mir g x) → Q x) : ∀ x ∈ osq A, Q x :=
  lev_all hc hs h0 fun s hs k hk h q => by
    obtain ⟨s1, s2⟩ := osq_mem.mp hs
    obtain ⟨k1, k2⟩ := osq_mem.mp hk
    obtain ⟨g1, g2⟩ := diff_root s1 k1 h
    refine hQ _ g1 (fun a ha => mir_fix g1 (hA a ha) ?_) s s1 (by rw [g2]; exact q)
    rw [mulS_less 1 (by rw [RT_l8 s1, RT_l8 k1]), mulS_comm s, mulS_comm k, s2 a ha, k2 a ha]
    rfl
def b0 : List Int := [2, -2, 0, 0, 0, 0, 0, 0]
def c0 : List Int := [0, 0, 2, 2, 0, 0, 0, 0]
theorem b0_in : b0 ∈ osq [r0] := by decide +kernel
theorem c0_in : c0 ∈ osq [r0, b0] := by decide +kernel
theorem osq1_lev : (osq [r0]).all (fun r => (lev (osq [r0]) b0 2).contains r || (lev (osq [r0]) b0 1).contains r || (lev (osq [r0]) b0 3).contains r || r == b0) = true := by decide +kernel
theorem osq2_lev : (osq [r0, b0]).all (fun r => (lev (osq [r0, b0]) c0 2).contains r || (lev (osq [r0, b0]) c0 1).contains r || (lev (osq [r0, b0]) c0 3).contains r || r == c0) = true := by decide +kernel
theorem mulS_mirR {g x y : List Int} (hg : g ∈ RT) (hx : x ∈ RT) (hy : y ∈ RT) : mulS (mir g x) (mir g y) = mulS x y := mulS_mir hg (RT_lat hx) (RT_lat hy)
theorem opair_ind {Q : List Int → List Int → Prop} (h0 : Q r0 b0) (hQ : ∀ g ∈ RT, ∀ a ∈ RT, ∀ b ∈ RT, Q (mir g a) (mir g b) → Q a b) : ∀ a ∈ RT, ∀ b ∈ RT, mulS a b = 0 → Q a b := by
  have s2 : ∀ b ∈ osq [r0], Q r0 b := osq_ind (by simpa using RT_lat r0_in) osq1_lev b0_in h0 fun g hg hf x hx q => hQ g hg r0 r0_in x hx (by rw [hf r0 (by simp)]; exact q)
  refine root_ind (Q := fun a => ∀ b ∈ RT, mulS a b = 0 → Q a b) (fun b hb h => s2 b (osq_mem.mpr ⟨hb, by simpa using h⟩)) fun g hg a ha q b hb h => ?_
  exact hQ g hg a ha b hb (q _ (mir_RT hg hb) (by rw [mulS_mirR hg ha hb, h]))
/-- what mirrors keep, from one triple of product 0 to all -/
theorem otri_ind {Q : List Int → List Int → List Int → Prop} (h0 : Q r0 b0 c0) (hQ : ∀ g ∈ RT, ∀ a ∈ RT, ∀ b ∈ RT, ∀ c ∈ RT, Q (mir g a) (mir g b) (mir g c) → Q a b c) :
    ∀ a ∈ RT, ∀ b ∈ RT, ∀ c ∈ RT, mulS a b = 0 → mulS a c = 0 → mulS b c = 0 → Q a b c := by
  have hb0 := (osq_mem.mp b0_in).1
  have s3 : ∀ c ∈ osq [r0, b0], Q r0 b0 c := osq_ind (by
    intro a ha
    rcases List.mem_cons.mp ha with rfl | ha
    · exact RT_lat r0_in
    · rw [List.mem_singleton.mp ha]; exact RT_lat hb0) osq2_lev c0_in h0 fun g hg hf x hx q => hQ g hg r0 r0_in b0 hb0 x hx (by rw [hf r0 (by simp), hf b0 (by simp)]; exact q)
  intro a ha b hb c hc h1 h2 h3
  refine opair_ind (Q := fun a b => ∀ c ∈ RT, mulS a c = 0 → mulS b c = 0 → Q a b c) (fun c hc h2 h3 => s3 c (osq_mem.mpr ⟨hc, ?_⟩)) (fun g hg a ha b hb q c hc h2 h3 => ?_) a ha b hb h1 c hc h2 h3
  · intro a ha
    rcases List.mem_cons.mp ha with rfl | ha
    · exact h2
    · rw [List.mem_singleton.mp ha]; exact h3
  · exact hQ g hg a ha b hb c hc (q _ (mir_RT hg hc) (by rw [mulS_mirR hg ha hc, h2]) (by rw [mulS_mirR hg hb hc, h3]))
theorem osq_mir {g : List Int} (hg : g ∈ RT) {A : List (List Int)} (hA : ∀ a ∈ A, Lat a) : (osq (A.map (mir g))).length = (osq A).length := by
  unfold osq
  rw [← List.countP_eq_length_filter, ← List.countP_eq_length_filter]
  refine count_mir hg _ _ fun x hx => ?_
  rw [List.all_map]
  rw [Bool.eq_iff_iff, List.all_eq_true, List.all_eq_true]
  have e : ∀ a ∈ A, mulS (mir g a) (mir g x) = mulS a x := fun a ha => mulS_mir hg (hA a ha) (RT_lat hx)
  exact ⟨fun h a ha => by rw [← e a ha]; exact h a ha, fun h a ha => by show (mulS (mir g a) (mir g x) == 0) = true; rw [e a ha]; exact h a ha⟩
theorem o126 : ∀ a ∈ RT, (osq [a]).length = 126 :=
  root_ind (by decide +kernel) fun g hg a ha q => by
    rw [← q]
    exact (osq_mir hg (A := [a]) (by simpa using RT_lat ha)).symm
theorem lat2 {a b : List Int} (ha : a ∈ RT) (hb : b ∈ RT) : ∀ x ∈ [a, b], Lat x := by
  intro x hx
  rcases List.mem_cons.mp hx with rfl | hx
  · exact RT_lat ha
  · rw [List.mem_singleton.mp hx]; exact RT_lat hb
theorem lat3 {a b c : List Int} (ha : a ∈ RT) (hb : b ∈ RT) (hc : c ∈ RT) : ∀ x ∈ [a, b, c], Lat x := by
  intro x hx
  rcases List.mem_cons.mp hx with rfl | hx
  · exact RT_lat ha
  · exact lat2 hb hc x hx
theorem lat4 {a b c d : List Int} (ha : a ∈ RT) (hb : b ∈ RT) (hc : c ∈ RT) (hd : d ∈ RT) : ∀ x ∈ [a, b, c, d], Lat x := by
  intro x hx
  rcases List.mem_cons.mp hx with rfl | hx
  · exact RT_lat ha
  · exact lat3 hb hc hd x hx
theorem o60 : ∀ a ∈ RT, ∀ b ∈ RT, mulS a b = 0 → (osq [a, b]).length = 60 :=
  opair_ind (by decide +kernel) fun g hg a ha b hb q => by
    rw [← q]
    exact (osq_mir hg (A := [a, b]) (lat2 ha hb)).symm
def O3 : List (List Int) := osq [r0, b0, c0]
theorem O3_26 : O3.length = 26 := by decide +kernel
theorem O3_8 : O3.countP (fun x => O3.countP (fun y => mulS x y == 0) == 8) = 24 := by decide +kernel
theorem O3_24 : O3.countP (fun x => O3.countP (fun y => mulS x y == 0) == 24) = 2 := by decide +kernel
theorem osq4 {a b c x : List Int} : (osq [a, b, c, x]).length = (osq [a, b, c]).countP fun y => mulS x y == 0 := by
  unfold osq
  rw [List.countP_filter, ← List.countP_eq_length_filter]
  refine List.countP_congr fun y _ => ?_
  simp only [List.all_cons, List.all_nil, Bool.and_true, Bool.and_eq_true]
  constructor
  · rintro ⟨h1, h2, h3, h4⟩; exact ⟨h4, h1, h2, h3⟩
  · rintro ⟨h4, h1, h2, h3⟩; exact ⟨h1, h2, h3, h4⟩
theorem o26 : ∀ a ∈ RT, ∀ b ∈ RT, ∀ c ∈ RT, mulS a b = 0 → mulS a c = 0 → mulS b c = 0 → (osq [a, b, c]).length = 26 ∧ (∀ n, n = 8 ∨ n = 24 → (osq [a, b, c]).countP (fun x => (osq [a, b, c, x]).length == n) = if n = 8 then 24 else 2) := by
  refine otri_ind ⟨O3_26, fun n hn => ?_⟩ fun g hg a ha b hb c hc q => ⟨?_, fun n hn => ?_⟩
  · have e : ∀ m, (osq [r0, b0, c0]).countP (fun x => (osq [r0, b0, c0, x]).length == m) = O3.countP (fun x => O3.countP (fun y => mulS x y == 0) == m) := fun m => List.countP_congr fun x _ => by rw [osq4]; rfl
    rcases hn with rfl | rfl
    · rw [e, O3_8]; rfl
    · rw [e, O3_24]; rfl
  · rw [← q.1]
    exact (osq_mir hg (A := [a, b, c]) (lat3 ha hb hc)).symm
  · rw [← q.2 n hn]
    unfold osq
    rw [List.countP_filter, List.countP_filter]
    refine (count_mir hg _ _ fun x hx => ?_).symm
    have h1 : (List.filter (fun y => [mir g a, mir g b, mir g c, mir g x].all fun z => mulS z y == 0) RT).length = (List.filter (fun y => [a, b, c, x].all fun z => mulS z y == 0) RT).length := osq_mir hg (A := [a, b, c, x]) (lat4 ha hb hc hx)
    rw [h1]
    simp only [List.all_cons, List.all_nil, Bool.and_true]
    rw [mulS_mirR hg ha hx, mulS_mirR hg hb hx, mulS_mirR hg hc hx]
end Pf

set_option Elab.async false
set_option linter.all false
set_option maxRecDepth 100000
set_option maxHeartbeats 4000000
namespace Pf
open PySem PySem.Spec PyProof.Rows L2

/-! ## frames -/
def neg (x : List Int) : List Int := smul (-1) x
theorem neg_lat {x : List Int} (h : Lat x) : Lat (neg x) := h.smul _
theorem mulS_neg (x y : List Int) : mulS (neg x) y = -mulS x y := by unfold neg; rw [mulS_smul]; omega
theorem mulS_neg' (x y : List Int) : mulS x (neg y) = -mulS x y := by rw [mulS_comm, mulS_neg, mulS_comm]
theorem neg_neg : ∀ x : List Int, neg (neg x) = x
  | [] => rfl
  | a :: x => by
    show (-1 * (-1 * a)) :: neg (neg x) = a :: x
    rw [neg_neg x]
    congr 1
    omega
theorem neg_RT {x : List Int} (h : x ∈ RT) : neg x ∈ RT := RT_mk (neg_lat (RT_lat h)) (by rw [mulS_neg, mulS_neg', RT_sq h]; rfl)
theorem less_smul : ∀ {x g : List Int} (m k : Int), less (smul m x) g (m * k) = smul m (less x g k)
  | [], [], _, _ => rfl
  | [], _ :: _, _, _ => rfl
  | _ :: _, [], _, _ => rfl
  | a :: x, b :: g, m, k => by
    show (m * a - m * k * b) :: less (smul m x) g (m * k) = (m * (a - k * b)) :: smul m (less x g k)
    rw [less_smul m k, Int.mul_sub, Int.mul_assoc]
theorem mir_smul {g x : List Int} (m : Int) (hg : g ∈ RT) (hx : Lat x) : mir g (smul m x) = smul m (mir g x) := by
  unfold mir
  have : dot g (smul m x) = m * dot g x := dot_of (RT_lat hg) (hx.smul m) (by rw [mulS_comm, mulS_smul, mulS_comm, (RT_lat hg).dot hx, Int.mul_left_comm])
  rw [this, less_smul]
theorem less_add : ∀ {x y g : List Int} (j k : Int), less (add x y) g (j + k) = add (less x g j) (less y g k)
  | [], [], g, _, _ => by cases g <;> rfl
  | [], _ :: _, g, _, _ => by cases g <;> rfl
  | _ :: _, [], g, _, _ => by cases g <;> rfl
  | a :: x, b :: y, [], _, _ => rfl
  | a :: x, b :: y, c :: g, j, k => by
    show (a + b - (j + k) * c) :: less (add x y) g (j + k) = (a - j * c + (b - k * c)) :: add (less x g j) (less y g k)
    rw [less_add j k, Int.add_mul]
    congr 1
    omega
theorem mir_add {g x y : List Int} (hg : g ∈ RT) (hx : Lat x) (hy : Lat y) : mir g (add x y) = add (mir g x) (mir g y) := by
  unfold mir
  have : dot g (add x y) = dot g x + dot g y := dot_of (RT_lat hg) (hx.add hy) (by rw [mulS_comm, mulS_add (by rw [hx.1, hy.1]), mulS_comm x, mulS_comm y, (RT_lat hg).dot hx, (RT_lat hg).dot hy, Int.mul_add])
  rw [this, less_add]
theorem add_rc : ∀ a b c : List Int, add (add a b) c = add (add a c) b
  | [], b, c => by cases b <;> cases c <;> rfl
  | _ :: _, [], c => by cases c <;> rfl
  | _ :: _, _ :: _, [] => rfl
  | x :: a, y :: b, z :: c => by
    show (x + y + z) :: add (add a b) c = (x + z + y) :: add (add a c) b
    rw [add_rc a b c]
    congr 1
    omega
/-- twice a row -/
def Tw (x : List Int) : Prop := ∃ h, Lat h ∧ x = smul 2 h
def half (x : List Int) : List Int := x.map fun a => a.fdiv 2
def twb (x : List Int) : Bool := x.all (fun a => a.fmod 2 == 0) && decide (Lat (half x))
theorem smul_half : ∀ {x : List Int}, (∀ a ∈ x, a.fmod 2 = 0) → smul 2 (half x) = x
  | [], _ => rfl
  | a :: x, h => by
    show (2 * a.fdiv 2) :: smul 2 (half x) = a :: x
    rw [smul_half fun b hb => h b (List.mem_cons_of_mem _ hb)]
    have h1 := h a List.mem_cons_self
    rw [Int.fmod_eq_emod_of_nonneg _ (by decide)] at h1
    rw [Int.fdiv_eq_ediv_of_nonneg _ (by decide)]
    congr 1
    omega
theorem half_smul : ∀ x : List Int, half (smul 2 x) = x
  | [] => rfl
  | a :: x => by
    show (2 * a).fdiv 2 :: half (smul 2 x) = a :: x
    rw [half_smul x, Int.fdiv_eq_ediv_of_nonneg _ (by decide)]
    congr 1
    omega
theorem tw_iff {x : List Int} : twb x = true ↔ Tw x := by
  unfold twb
  rw [Bool.and_eq_true, List.all_eq_true, decide_eq_true_eq]
  constructor
  · rintro ⟨h1, h2⟩
    exact ⟨_, h2, (smul_half fun a ha => by simpa using h1 a ha).symm⟩
  · rintro ⟨h, hl, rfl⟩
    refine ⟨fun a ha => ?_, by rw [half_smul]; exact hl⟩
    obtain ⟨b, _, rfl⟩ := List.mem_map.mp ha
    rw [Int.fmod_eq_emod_of_nonneg _ (by decide)]
    simp
theorem smul_add (m : Int) : ∀ x y : List Int, smul m (add x y) = add (smul m x) (smul m y)
  | [], y => by cases y <;> rfl
  | _ :: _, [] => rfl
  | a :: x, b :: y => by
    show (m * (a + b)) :: smul m (add x y) = (m * a + m * b) :: add (smul m x) (smul m y)
    rw [smul_add m x y, Int.mul_add]
theorem add_back : ∀ {x y : List Int}, x.length = y.length → add (add x y) (smul 2 (neg y)) = add x (neg y)
  | [], [], _ => rfl
  | a :: x, b :: y, h => by
    show (a + b + 2 * (-1 * b)) :: add (add x y) (smul 2 (neg y)) = (a + -1 * b) :: add x (neg y)
    rw [add_back (Nat.succ.inj h : x.length = y.length)]
    congr 1
    omega
theorem add_undo : ∀ {x y : List Int}, x.length = y.length → add (add x y) (neg y) = x
  | [], [], _ => rfl
  | a :: x, b :: y, h => by
    show (a + b + -1 * b) :: add (add x y) (neg y) = a :: x
    rw [add_undo (Nat.succ.inj h : x.length = y.length)]
    congr 1
    omega
theorem neg_smul (m : Int) (x : List Int) : neg (smul m x) = smul m (neg x) := by
  unfold neg smul
  rw [List.map_map, List.map_map]
  refine List.map_congr_left fun a _ => ?_
  show -1 * (m * a) = m * (-1 * a)
  rw [Int.mul_left_comm]
theorem tw_mod {x v : List Int} (hx : Lat x) (hv : Lat v) : Tw (add x (smul 2 v)) ↔ Tw x := by
  constructor
  · rintro ⟨h, hl, e⟩
    refine ⟨add h (neg v), hl.add (neg_lat hv), ?_⟩
    rw [smul_add, ← e, ← neg_smul, add_undo (by rw [hx.1, (hv.smul 2).1])]
  · rintro ⟨h, hl, rfl⟩
    exact ⟨add h v, hl.add hv, (smul_add ..).symm⟩
theorem tw_mir {g x : List Int} (hg : g ∈ RT) (hx : Lat x) : Tw (mir g x) ↔ Tw x := by
  have one : ∀ {x : List Int}, Lat x → Tw x → Tw (mir g x) := by
    rintro x _ ⟨h, hl, rfl⟩
    exact ⟨mir g h, mir_lat hg hl, mir_smul 2 hg hl⟩
  exact ⟨fun h => by rw [← mir_mir hg hx]; exact one (mir_lat hg hx) h, one hx⟩
/-- the sets of T whose sum, put to acc, is twice a row; k are taken -/
def cnt (p : Nat → Bool) : List (List Int) → List Int → Nat → Nat
  | [], acc, k => if twb acc && p k then 1 else 0
  | t :: T, acc, k => cnt p T acc k + cnt p T (add acc t) (k + 1)
section
variable {p : Nat → Bool}
theorem cnt_mod {v : List Int} (hv : Lat v) : ∀ (T : List (List Int)) (acc : List Int) (k : Nat), (∀ t ∈ T, Lat t) → Lat acc → cnt p T (add acc (smul 2 v)) k = cnt p T acc k
  | [], acc, k, _, ha => by
    have : twb (add acc (smul 2 v)) = twb acc := by rw [Bool.eq_iff_iff, tw_iff, tw_iff]; exact tw_mod ha hv
    unfold cnt
    rw [this]
  | t :: T, acc, k, hT, ha => by
    unfold cnt
    have ht := hT t List.mem_cons_self
    have hT' : ∀ t ∈ T, Lat t := fun t h => hT t (List.mem_cons_of_mem _ h)
    rw [cnt_mod hv T acc k hT' ha, add_rc, cnt_mod hv T (add acc t) (k + 1) hT' (ha.add ht)]
theorem cnt_neg {t : List Int} {T : List (List Int)} {acc : List Int} {k : Nat} (hT : ∀ t ∈ T, Lat t) (ht : Lat t) (ha : Lat acc) : cnt p (neg t :: T) acc k = cnt p (t :: T) acc k := by
  show cnt p T acc k + cnt p T (add acc (neg t)) (k + 1) = cnt p T acc k + cnt p T (add acc t) (k + 1)
  rw [← add_back (by rw [ha.1, ht.1]), cnt_mod (neg_lat ht) T _ _ hT (ha.add ht)]
theorem cnt_perm {T U : List (List Int)} (h : T.Perm U) : ∀ (acc : List Int) (k : Nat), cnt p T acc k = cnt p U acc k := by
  induction h with
  | nil => exact fun _ _ => rfl
  | cons x _ ih =>
    intro acc k
    show cnt p _ acc k + cnt p _ (add acc x) (k + 1) = cnt p _ acc k + cnt p _ (add acc x) (k + 1)
    rw [ih, ih]
  | swap x y l =>
    intro acc k
    show cnt p l acc k + cnt p l (add acc x) (k + 1) + (cnt p l (add acc y) (k + 1) + cnt p l (add (add acc y) x) (k + 1 + 1)) = cnt p l acc k + cnt p l (add acc y) (k + 1) + (cnt p l (add acc x) (k + 1) + cnt p l (add (add acc x) y) (k + 1 + 1))
    rw [add_rc acc y x]
    omega
  | trans _ _ h1 h2 => exact fun acc k => (h1 acc k).trans (h2 acc k)
theorem cnt_mir {g : List Int} (hg : g ∈ RT) : ∀ (T : List (List Int)) (acc : List Int) (k : Nat), (∀ t ∈ T, Lat t) → Lat acc → cnt p (T.map (mir g)) (mir g acc) k = cnt p T acc k
  | [], acc, k, _, ha => by
    have : twb (mir g acc) = twb acc := by rw [Bool.eq_iff_iff, tw_iff, tw_iff]; exact tw_mir hg ha
    unfold cnt
    show (if twb (mir g acc) && p k then 1 else 0) = _
    rw [this]
  | t :: T, acc, k, hT, ha => by
    have ht := hT t List.mem_cons_self
    have hT' : ∀ t ∈ T, Lat t := fun t h => hT t (List.mem_cons_of_mem _ h)
    show cnt p (T.map (mir g)) (mir g acc) k + cnt p (T.map (mir g)) (add (mir g acc) (mir g t)) (k + 1) = cnt p T acc k + cnt p T (add acc t) (k + 1)
    rw [← mir_add hg ha ht, cnt_mir hg T acc k hT' ha, cnt_mir hg T _ _ hT' (ha.add ht)]
/-- up to signs -/
theorem cnt_sign (σ : List Int → Bool) : ∀ (T : List (List Int)) (acc : List Int) (k : Nat), (∀ t ∈ T, Lat t) → Lat acc → cnt p (T.map fun t => if σ t then t else neg t) acc k = cnt p T acc k
  | [], _, _, _, _ => rfl
  | t :: T, acc, k, hT, ha => by
    have ht := hT t List.mem_cons_self
    have hT' : ∀ t ∈ T, Lat t := fun t h => hT t (List.mem_cons_of_mem _ h)
    have hm : ∀ u ∈ T.map fun t => if σ t then t else neg t, Lat u := fun u hu => by
      obtain ⟨t, ht, rfl⟩ := List.mem_map.mp hu
      split
      · exact hT' t ht
      · exact neg_lat (hT' t ht)
    rw [List.map_cons]
    have e : cnt p ((if σ t then t else neg t) :: T.map fun t => if σ t then t else neg t) acc k = cnt p (t :: T.map fun t => if σ t then t else neg t) acc k := by
      split
      · rfl
      · exact cnt_neg hm ht ha
    rw [e]
    show cnt p (T.map fun t => if σ t then t else neg t) acc k + cnt p (T.map fun t => if σ t then t else neg t) (add acc t) (k + 1) = cnt p T acc k + cnt p T (add acc t) (k + 1)
    rw [cnt_sign σ T acc k hT' ha, cnt_sign σ T _ _ hT' (ha.add ht)]
end
def z8 : List Int := [0, 0, 0, 0, 0, 0, 0, 0]
theorem z8_lat : Lat z8 := by decide
theorem mir_z8 {g : List Int} (hg : g ∈ RT) : mir g z8 = z8 := mir_fix hg z8_lat (by
  match g, RT_l8 hg with
  | [a, b, c, d, e, f, g, h], _ => simp [mulS, z8])
/-- eight roots, any two of product 0, with 16 such sets, 14 of four -/
structure Fr (F : List (List Int)) : Prop where
  len : F.length = 8
  rt : ∀ x ∈ F, x ∈ RT
  pw : F.Pairwise fun x y => mulS x y = 0
  all : cnt (fun _ => true) F z8 0 = 16
  four : cnt (fun k => k == 4) F z8 0 = 14
theorem Fr.mir {g : List Int} {F : List (List Int)} (h : Fr F) (hg : g ∈ RT) : Fr (F.map (mir g)) := by
  have hl : ∀ t ∈ F, Lat t := fun t ht => RT_lat (h.rt t ht)
  refine ⟨by rw [List.length_map, h.len], fun x hx => ?_, ?_, ?_, ?_⟩
  · obtain ⟨y, hy, rfl⟩ := List.mem_map.mp hx
    exact mir_RT hg (h.rt y hy)
  · refine List.pairwise_map.mpr (h.pw.imp_of_mem fun {x y} hx hy q => ?_)
    rw [mulS_mirR hg (h.rt x hx) (h.rt y hy), q]
  · have := cnt_mir (p := fun _ => true) hg F z8 0 hl z8_lat
    rw [mir_z8 hg] at this
    rw [this, h.all]
  · have := cnt_mir (p := fun k => k == 4) hg F z8 0 hl z8_lat
    rw [mir_z8 hg] at this
    rw [this, h.four]
def E0 : List Int := [0, 0, 2, -2, 0, 0, 0, 0]
def X1 : List (List Int) := [E0, [0, 0, 0, 0, 2, 2, 0, 0], [0, 0, 0, 0, 2, -2, 0, 0], [0, 0, 0, 0, 0, 0, 2, 2], [0, 0, 0, 0, 0, 0, 2, -2]]
def X2 : List (List Int) := [E0, [0, 0, 0, 0, 2, 0, 2, 0], [0, 0, 0, 0, 2, 0, -2, 0], [0, 0, 0, 0, 0, 2, 0, 2], [0, 0, 0, 0, 0, 2, 0, -2]]
def X3 : List (List Int) := [E0, [0, 0, 0, 0, 2, 0, 0, 2], [0, 0, 0, 0, 2, 0, 0, -2], [0, 0, 0, 0, 0, 2, 2, 0], [0, 0, 0, 0, 0, 2, -2, 0]]
def XS : List (List (List Int)) := [X1, X2, X3]
def inPM (X : List (List Int)) (x : List Int) : Bool := X.contains x || X.contains (neg x)
def pwB : List (List Int) → Bool
  | [] => true
  | x :: l => (l.all fun y => mulS x y == 0) && pwB l
theorem pwB_ok : ∀ {l : List (List Int)}, pwB l = true → l.Pairwise fun x y => mulS x y = 0
  | [], _ => .nil
  | x :: l, h => by
    have h' : ((l.all fun y => mulS x y == 0) && pwB l) = true := h
    rw [Bool.and_eq_true, List.all_eq_true] at h'
    exact List.pairwise_cons.mpr ⟨fun y hy => by simpa using h'.1 y hy, pwB_ok h'.2⟩
def frB (F : List (List Int)) : Bool := F.length == 8 && (F.all fun x => RT.contains x) && pwB F && cnt (fun _ => true) F z8 0 == 16 && cnt (fun k => k == 4) F z8 0 == 14
theorem frB_ok {F : List (List Int)} (h : frB F = true) : Fr F := by
  unfold frB at h
  simp only [Bool.and_eq_true, beq_iff_eq, List.all_eq_true, List.contains_iff_mem] at h
  obtain ⟨⟨⟨⟨h1, h2⟩, h3⟩, h4⟩, h5⟩ := h
  exact ⟨h1, h2, pwB_ok h3, h4, h5⟩
theorem XS_fr : XS.all (fun X => frB (r0 :: b0 :: c0 :: X)) = true := by decide +kernel
theorem O3_one : O3.all (fun x => inPM [E0] x || XS.any fun X => inPM X x) = true := by decide +kernel
theorem O3_two : XS.all (fun X => inPM X E0 && O3.all fun x => !inPM X x || (inPM [E0] x || O3.all fun y => !(mulS x y == 0) || inPM X y)) = true := by decide +kernel
theorem inPM_iff {X : List (List Int)} {x : List Int} : inPM X x = true ↔ x ∈ X ∨ neg x ∈ X := by
  unfold inPM
  rw [Bool.or_eq_true, List.contains_iff_mem, List.contains_iff_mem]
theorem inPM_E0 {X : List (List Int)} {x : List Int} (hX : X ∈ XS) (h : inPM [E0] x = true) : inPM X x = true := by
  have he : E0 ∈ X := by
    rcases List.mem_cons.mp hX with rfl | hX
    · exact List.mem_cons_self
    · rcases List.mem_cons.mp hX with rfl | hX
      · exact List.mem_cons_self
      · rw [List.mem_singleton.mp hX]; exact List.mem_cons_self
  rcases inPM_iff.mp h with h | h
  · exact inPM_iff.mpr (.inl (by rw [List.mem_singleton.mp h]; exact he))
  · exact inPM_iff.mpr (.inr (by rw [List.mem_singleton.mp h]; exact he))
theorem pw_or : ∀ {T : List (List Int)}, T.Pairwise (fun x y => mulS x y = 0) → ∀ x ∈ T, ∀ y ∈ T, x = y ∨ mulS x y = 0
  | [], _, x, hx, _, _ => by cases hx
  | a :: T, h, x, hx, y, hy => by
    obtain ⟨p, h'⟩ := List.pairwise_cons.mp h
    rcases List.mem_cons.mp hx with e1 | h1
    · rcases List.mem_cons.mp hy with e2 | h2
      · exact .inl (by rw [e1, e2])
      · exact .inr (by rw [e1]; exact p y h2)
    · rcases List.mem_cons.mp hy with e2 | h2
      · exact .inr (by rw [e2, mulS_comm]; exact p x h1)
      · exact pw_or h' x h1 y h2
theorem frame_base : ∀ T : List (List Int), (∀ x ∈ T, x ∈ osq [r0, b0, c0]) → T.Pairwise (fun x y => mulS x y = 0) → ∃ X, Fr (r0 :: b0 :: c0 :: X) ∧ ∀ x ∈ T, x ∈ X ∨ neg x ∈ X := by
  intro T hT hp
  by_cases q : ∃ x ∈ T, inPM [E0] x = false
  · obtain ⟨x, hx, hxe⟩ := q
    have h1 := List.all_eq_true.mp O3_one x (hT x hx)
    rw [hxe, Bool.false_or, List.any_eq_true] at h1
    obtain ⟨X, hX, hxX⟩ := h1
    refine ⟨X, frB_ok (List.all_eq_true.mp XS_fr X hX), fun y hy => inPM_iff.mp ?_⟩
    have h2 := List.all_eq_true.mp O3_two X hX
    rw [Bool.and_eq_true, List.all_eq_true] at h2
    have h3 := h2.2 x (hT x hx)
    rw [hxX, hxe, Bool.not_true, Bool.false_or, Bool.false_or, List.all_eq_true] at h3
    rcases pw_or hp x hx y hy with rfl | h4
    · exact hxX
    · have := h3 y (hT y hy)
      rw [h4] at this
      simpa using this
  · refine ⟨X1, frB_ok (List.all_eq_true.mp XS_fr X1 (by simp [XS])), fun y hy => inPM_iff.mp (inPM_E0 (by simp [XS]) ?_)⟩
    cases e : inPM [E0] y with
    | true => rfl
    | false => exact absurd ⟨y, hy, e⟩ q
theorem frame_tri : ∀ a ∈ RT, ∀ b ∈ RT, ∀ c ∈ RT, mulS a b = 0 → mulS a c = 0 → mulS b c = 0 → ∀ T : List (List Int), (∀ x ∈ T, x ∈ osq [a, b, c]) → T.Pairwise (fun x y => mulS x y = 0) → ∃ X, Fr (a :: b :: c :: X) ∧ ∀ x ∈ T, x ∈ X ∨ neg x ∈ X := by
  refine otri_ind frame_base fun g hg a ha b hb c hc q T hT hp => ?_
  have hr : ∀ x ∈ T, x ∈ RT := fun x hx => (osq_mem.mp (hT x hx)).1
  have hm : ∀ x ∈ T.map (mir g), x ∈ osq [mir g a, mir g b, mir g c] := by
    intro x hx
    obtain ⟨y, hy, rfl⟩ := List.mem_map.mp hx
    obtain ⟨h1, h2⟩ := osq_mem.mp (hT y hy)
    refine osq_mem.mpr ⟨mir_RT hg h1, fun z hz => ?_⟩
    have e : [mir g a, mir g b, mir g c] = [a, b, c].map (mir g) := rfl
    rw [e] at hz
    obtain ⟨u, hu, rfl⟩ := List.mem_map.mp hz
    rw [mulS_mir hg (lat3 ha hb hc u hu) (RT_lat h1)]
    exact h2 u hu
  obtain ⟨X, hX, h⟩ := q (T.map (mir g)) hm (List.pairwise_map.mpr (hp.imp_of_mem fun {x y} hx hy q => by rw [mulS_mirR hg (hr x hx) (hr y hy), q]))
  refine ⟨X.map (mir g), ?_, fun x hx => ?_⟩
  · have := hX.mir hg
    rw [List.map_cons, List.map_cons, List.map_cons, mir_mir hg (RT_lat ha), mir_mir hg (RT_lat hb), mir_mir hg (RT_lat hc)] at this
    exact this
  · rcases h _ (List.mem_map.mpr ⟨x, hx, rfl⟩) with e | e
    · exact .inl (List.mem_map.mpr ⟨_, e, mir_mir hg (RT_lat (hr x hx))⟩)
    · refine .inr (List.mem_map.mpr ⟨_, e, ?_⟩)
      unfold neg
      rw [mir_smul _ hg (mir_lat hg (RT_lat (hr x hx))), mir_mir hg (RT_lat (hr x hx))]
/-- roots of product 0 are in a frame, up to signs -/
theorem frame_of : ∀ T : List (List Int), (∀ x ∈ T, x ∈ RT) → T.Pairwise (fun x y => mulS x y = 0) → ∃ F, Fr F ∧ ∀ x ∈ T, x ∈ F ∨ neg x ∈ F := by
  have two : ∀ a ∈ RT, ∀ b ∈ RT, mulS a b = 0 → ∃ F, Fr F ∧ a ∈ F ∧ b ∈ F := by
    intro a ha b hb h
    obtain ⟨c, hc⟩ : ∃ c, c ∈ osq [a, b] := List.exists_mem_of_length_pos (by rw [o60 a ha b hb h]; decide)
    obtain ⟨h1, h2⟩ := osq_mem.mp hc
    obtain ⟨X, hX, _⟩ := frame_tri a ha b hb c h1 h (h2 a (by simp)) (h2 b (by simp)) [] (fun x hx => by cases hx) .nil
    exact ⟨_, hX, by simp, by simp⟩
  have one : ∀ a ∈ RT, ∃ F, Fr F ∧ a ∈ F := by
    intro a ha
    obtain ⟨b, hb⟩ : ∃ b, b ∈ osq [a] := List.exists_mem_of_length_pos (by rw [o126 a ha]; decide)
    obtain ⟨h1, h2⟩ := osq_mem.mp hb
    obtain ⟨F, hF, h3, _⟩ := two a ha b h1 (h2 a (by simp))
    exact ⟨F, hF, h3⟩
  intro T hT hp
  match T, hT, hp with
  | [], _, _ =>
    obtain ⟨F, hF, _⟩ := one r0 r0_in
    exact ⟨F, hF, fun x hx => by cases hx⟩
  | [a], hT, _ =>
    obtain ⟨F, hF, h⟩ := one a (hT a (by simp))
    exact ⟨F, hF, fun x hx => .inl (by rw [List.mem_singleton.mp hx]; exact h)⟩
  | [a, b], hT, hp =>
    obtain ⟨F, hF, h1, h2⟩ := two a (hT a (by simp)) b (hT b (by simp)) ((List.pairwise_cons.mp hp).1 b (by simp))
    refine ⟨F, hF, fun x hx => .inl ?_⟩
    rcases List.mem_cons.mp hx with rfl | hx
    · exact h1
    · rw [List.mem_singleton.mp hx]; exact h2
  | a :: b :: c :: T, hT, hp =>
    obtain ⟨p1, hp⟩ := List.pairwise_cons.mp hp
    obtain ⟨p2, hp⟩ := List.pairwise_cons.mp hp
    obtain ⟨p3, hp⟩ := List.pairwise_cons.mp hp
    obtain ⟨X, hX, h⟩ := frame_tri a (hT a (by simp)) b (hT b (by simp)) c (hT c (by simp)) (p1 b (by simp)) (p1 c (by simp)) (p2 c (by simp)) T (fun x hx => by
      refine osq_mem.mpr ⟨hT x (by simp [hx]), fun a ha => ?_⟩
      rcases List.mem_cons.mp ha with rfl | ha
      · exact p1 x (by simp [hx])
      · rcases List.mem_cons.mp ha with rfl | ha
        · exact p2 x (by simp [hx])
        · rw [List.mem_singleton.mp ha]; exact p3 x hx) hp
    refine ⟨_, hX, fun x hx => ?_⟩
    rcases List.mem_cons.mp hx with rfl | hx
    · exact .inl (by simp)
    · rcases List.mem_cons.mp hx with rfl | hx
      · exact .inl (by simp)
      · rcases List.mem_cons.mp hx with rfl | hx
        · exact .inl (by simp)
        · rcases h x hx with e | e
          · exact .inl (by simp [e])
          · exact .inr (by simp [e])
theorem sub_len {α : Type} [DecidableEq α] : ∀ {l m : List α}, l.Nodup → (∀ x ∈ l, x ∈ m) → l.length ≤ m.length
  | [], m, _, _ => Nat.zero_le _
  | x :: l, m, h, hs => by
    have hx := hs x List.mem_cons_self
    have := sub_len (l := l) (m := m.erase x) (List.nodup_cons.mp h).2 fun y hy => (List.mem_erase_of_ne (fun e => (List.nodup_cons.mp h).1 (by rw [← e]; exact hy))).mpr (hs y (List.mem_cons_of_mem _ hy))
    rw [List.length_erase_of_mem hx] at this
    have := List.length_pos_of_mem hx
    rw [List.length_cons]
    omega
section
variable {T : List (List Int)} (hT : ∀ x ∈ T, x ∈ RT) (hp : T.Pairwise fun x y => mulS x y = 0)
include hT hp in
/-- T put into a frame -/
theorem frame_map : ∃ F, Fr F ∧ ∃ σ : List Int → Bool, (∀ x ∈ T, (if σ x then x else neg x) ∈ F) ∧ (T.map fun x => if σ x then x else neg x).Nodup := by
  obtain ⟨F, hF, h⟩ := frame_of T hT hp
  refine ⟨F, hF, fun x => F.contains x, fun x hx => ?_, List.pairwise_map.mpr (hp.imp_of_mem fun {x y} hx hy q e => ?_)⟩
  · by_cases e : F.contains x = true
    · rw [if_pos e]; exact List.contains_iff_mem.mp e
    · rw [if_neg e]
      rcases h x hx with q | q
      · exact absurd (List.contains_iff_mem.mpr q) e
      · exact q
  · have s : ∀ (b c : Bool), mulS (if b then x else neg x) (if c then y else neg y) = 0 := by
      intro b c
      cases b <;> cases c <;> simp [mulS_neg, mulS_neg', q]
    have s1 := s (F.contains x) (F.contains y)
    rw [← e] at s1
    have s2 : mulS (if F.contains x then x else neg x) (if F.contains x then x else neg x) = 8 := by
      split
      · exact RT_sq (hT x hx)
      · exact RT_sq (neg_RT (hT x hx))
    rw [s2] at s1
    cases s1
theorem Fr.nodup {F : List (List Int)} (h : Fr F) : F.Nodup := h.pw.imp_of_mem fun {x y} hx hy q e => by
  subst e
  rw [RT_sq (h.rt x hx)] at q
  cases q
include hT hp in
theorem frame_le : T.length ≤ 8 := by
  obtain ⟨F, hF, σ, h1, h2⟩ := frame_map hT hp
  have := sub_len h2 (m := F) fun y hy => by
    obtain ⟨x, hx, rfl⟩ := List.mem_map.mp hy
    exact h1 x hx
  rwa [List.length_map, hF.len] at this
include hT hp in
/-- fewer than eight: another -/
theorem frame_more (h8 : T.length < 8) : ∃ z ∈ RT, ∀ x ∈ T, mulS x z = 0 := by
  obtain ⟨F, hF, σ, h1, h2⟩ := frame_map hT hp
  obtain ⟨z, hz, hn⟩ : ∃ z ∈ F, z ∉ T.map fun x => if σ x then x else neg x := by
    refine Classical.byContradiction fun hn => ?_
    have := sub_len hF.nodup (m := T.map fun x => if σ x then x else neg x) fun z hz => Classical.byContradiction fun q => hn ⟨z, hz, q⟩
    rw [List.length_map, hF.len] at this
    omega
  refine ⟨z, hF.rt z hz, fun x hx => ?_⟩
  have hx' := h1 x hx
  rcases pw_or hF.pw _ hx' z hz with e | e
  · exact absurd (List.mem_map.mpr ⟨x, hx, e⟩) hn
  · split at e
    · exact e
    · rw [mulS_neg] at e; omega
include hT hp in
theorem frame_cnt (h8 : T.length = 8) : cnt (fun _ => true) T z8 0 = 16 ∧ cnt (fun k => k == 4) T z8 0 = 14 := by
  obtain ⟨F, hF, σ, h1, h2⟩ := frame_map hT hp
  have sub : ∀ y ∈ T.map fun x => if σ x then x else neg x, y ∈ F := fun y hy => by
    obtain ⟨x, hx, rfl⟩ := List.mem_map.mp hy
    exact h1 x hx
  have pm : (T.map fun x => if σ x then x else neg x).Perm F := by
    refine (List.perm_ext_iff_of_nodup h2 hF.nodup).mpr fun z => ⟨sub z, fun hz => Classical.byContradiction fun hn => ?_⟩
    have := sub_len (l := z :: T.map fun x => if σ x then x else neg x) (List.nodup_cons.mpr ⟨hn, h2⟩) (m := F) fun y hy => by
      rcases List.mem_cons.mp hy with rfl | hy
      · exact hz
      · exact sub y hy
    rw [List.length_cons, List.length_map, hF.len] at this
    omega
  have hl : ∀ t ∈ T, Lat t := fun t ht => RT_lat (hT t ht)
  exact ⟨by rw [← cnt_sign σ T z8 0 hl z8_lat, cnt_perm pm, hF.all], by rw [← cnt_sign σ T z8 0 hl z8_lat, cnt_perm pm, hF.four]⟩
end
end Pf

set_option Elab.async false
set_option linter.all false
set_option maxRecDepth 100000
set_option maxHeartbeats 4000000
namespace Pf
open PySem PySem.Spec PyProof.Rows L2

/-! ## roots that bring nearer -/
theorem mulS_set : ∀ (l v : List Int) (i : Nat) (a : Int), l.length = v.length → i < l.length → mulS (l.set i a) v = mulS l v + (a - l.getD i 0) * v.getD i 0
  | [], _, _, _, _, h => by cases h
  | x :: l, [], _, _, h, _ => by cases h
  | x :: l, y :: v, 0, a, h, _ => by
    show mulS (a :: l) (y :: v) = mulS (x :: l) (y :: v) + (a - x) * y
    rw [mulS_cons, mulS_cons, Int.sub_mul]
    omega
  | x :: l, y :: v, i + 1, a, h, hi => by
    have ih := mulS_set l v i a (Nat.succ.inj h) (Nat.lt_of_succ_lt_succ hi)
    show mulS (x :: l.set i a) (y :: v) = mulS (x :: l) (y :: v) + (a - l.getD i 0) * v.getD i 0
    rw [mulS_cons, mulS_cons, ih]
    omega
def pr2 (i j : Nat) (a b : Int) : List Int := (z8.set i a).set j b
theorem pr2_in : ∀ i ∈ List.range 8, ∀ j ∈ List.range 8, i < j → ∀ a ∈ [(2 : Int), -2], ∀ b ∈ [(2 : Int), -2], pr2 i j a b ∈ RT := by decide +kernel
theorem mulS_z8 : ∀ v : List Int, mulS z8 v = 0 := by
  have : ∀ (n : Nat) (v : List Int), mulS (List.replicate n 0) v = 0 := by
    intro n
    induction n with
    | zero => intro v; cases v <;> rfl
    | succ n ih =>
      intro v
      cases v with
      | nil => rfl
      | cons a v => rw [List.replicate_succ, mulS_cons, ih, Int.zero_mul]; rfl
  exact this 8
theorem mulS_pr2 {v : List Int} (hv : v.length = 8) {i j : Nat} (hi : i < 8) (hj : j < 8) (h : i < j) (a b : Int) : mulS (pr2 i j a b) v = a * v.getD i 0 + b * v.getD j 0 := by
  unfold pr2
  have hz : ∀ k < 8, z8.getD k 0 = 0 := by decide
  have h1 : (z8.set i a).getD j 0 = 0 := by
    rw [List.getD_eq_getElem?_getD, List.getElem?_set_ne (by omega), ← List.getD_eq_getElem?_getD]
    exact hz j hj
  rw [mulS_set _ v j b (by rw [List.length_set, hv]; rfl) (by rw [List.length_set]; exact hj), mulS_set z8 v i a (by rw [hv]; rfl) (show i < z8.length from hi), mulS_z8, h1, hz i hi]
  simp
theorem pair_le {v : List Int} (hv : v.length = 8) (H : ∀ r ∈ RT, mulS r v ≤ 7) {i j : Nat} (hi : i < 8) (hj : j < 8) (h : i < j) : (v.getD i 0).natAbs + (v.getD j 0).natAbs ≤ 3 := by
  have f : ∀ a ∈ [(2 : Int), -2], ∀ b ∈ [(2 : Int), -2], a * v.getD i 0 + b * v.getD j 0 ≤ 7 := fun a ha b hb => by
    rw [← mulS_pr2 hv hi hj h]
    exact H _ (pr2_in i (List.mem_range.mpr hi) j (List.mem_range.mpr hj) h a ha b hb)
  have f1 := f 2 (by simp) 2 (by simp)
  have f2 := f 2 (by simp) (-2) (by simp)
  have f3 := f (-2) (by simp) 2 (by simp)
  have f4 := f (-2) (by simp) (-2) (by simp)
  omega
theorem evs : ∀ {v : List Int}, (∀ a ∈ v, a % 2 = 0) → v.Pairwise (fun a b => a.natAbs + b.natAbs ≤ 3) → (∀ a ∈ v, a = 0) ∨ ∃ x ∈ v, v.sum = x ∧ x ≠ 0
  | [], _, _ => .inl fun a h => by cases h
  | a :: v, h, hp => by
    obtain ⟨p1, p2⟩ := List.pairwise_cons.mp hp
    have ha := h a List.mem_cons_self
    have hv : ∀ b ∈ v, b % 2 = 0 := fun b hb => h b (List.mem_cons_of_mem _ hb)
    by_cases a0 : a = 0
    · rcases evs hv p2 with q | ⟨x, hx, e, n⟩
      · refine .inl fun b hb => ?_
        rcases List.mem_cons.mp hb with rfl | hb
        · exact a0
        · exact q b hb
      · exact .inr ⟨x, List.mem_cons_of_mem _ hx, by rw [List.sum_cons, a0, e]; omega, n⟩
    · have z : ∀ b ∈ v, b = 0 := fun b hb => by
        have h1 := p1 b hb
        have h2 := hv b hb
        omega
      have zs : ∀ {l : List Int}, (∀ b ∈ l, b = 0) → l.sum = 0 := fun {l} hl => by
        induction l with
        | nil => rfl
        | cons b l ih => rw [List.sum_cons, hl b List.mem_cons_self, ih fun c hc => hl c (List.mem_cons_of_mem _ hc)]; rfl
      exact .inr ⟨a, List.mem_cons_self, by rw [List.sum_cons, zs z]; omega, a0⟩
theorem mulS_zero : ∀ {v : List Int}, (∀ a ∈ v, a = 0) → mulS v v = 0
  | [], _ => rfl
  | a :: v, h => by
    rw [mulS_cons, mulS_zero fun b hb => h b (List.mem_cons_of_mem _ hb), h a List.mem_cons_self]
    rfl
theorem mulS_ones : ∀ {v : List Int}, (∀ a ∈ v, a * a = 1) → mulS v v = v.length
  | [], _ => rfl
  | a :: v, h => by
    rw [mulS_cons, mulS_ones fun b hb => h b (List.mem_cons_of_mem _ hb), h a List.mem_cons_self, List.length_cons]
    omega
theorem big {v : List Int} (hv : Lat v) (h : 16 ≤ mulS v v) : ∃ r ∈ RT, 8 ≤ mulS r v := by
  refine Classical.byContradiction fun hn => ?_
  have H : ∀ r ∈ RT, mulS r v ≤ 7 := fun r hr => by
    refine Int.not_lt.mp fun q => hn ⟨r, hr, by omega⟩
  have gd : ∀ i (hi : i < v.length), v.getD i 0 = v[i] := fun i hi => by rw [List.getD_eq_getElem?_getD, List.getElem?_eq_getElem hi]; rfl
  have hp : v.Pairwise fun a b => a.natAbs + b.natAbs ≤ 3 := List.pairwise_iff_getElem.mpr fun i j hi hj hij => by
    have := pair_le hv.1 H (i := i) (j := j) (by rw [← hv.1]; exact hi) (by rw [← hv.1]; exact hj) hij
    rwa [gd i hi, gd j hj] at this
  have other : ∀ a ∈ v, ∃ b ∈ v, a.natAbs + b.natAbs ≤ 3 := fun a ha => by
    obtain ⟨k, hk, rfl⟩ := List.getElem_of_mem ha
    have hk8 : k < 8 := by rw [← hv.1]; exact hk
    by_cases k0 : k = 0
    · have := pair_le hv.1 H (i := 0) (j := 1) (by decide) (by decide) (by decide)
      rw [gd 0 (by rw [hv.1]; decide), gd 1 (by rw [hv.1]; decide)] at this
      subst k0
      exact ⟨_, List.getElem_mem _, this⟩
    · have := pair_le hv.1 H (i := 0) (j := k) (by decide) hk8 (by omega)
      rw [gd 0 (by rw [hv.1]; decide), gd k hk] at this
      exact ⟨_, List.getElem_mem _, by rw [Nat.add_comm]; exact this⟩
  by_cases ho : v.headD 0 % 2 = 0
  · rcases evs (fun a ha => by have := hv.2.1 a ha; omega) hp with z | ⟨x, hx, e, n⟩
    · rw [mulS_zero z] at h
      omega
    · obtain ⟨b, _, hb⟩ := other x hx
      have := hv.2.2
      rw [e] at this
      omega
  · have one : ∀ a ∈ v, a * a = 1 := fun a ha => by
      obtain ⟨b, hb, hab⟩ := other a ha
      have h1 := hv.2.1 a ha
      have h2 := hv.2.1 b hb
      have : a = 1 ∨ a = -1 := by omega
      rcases this with rfl | rfl <;> rfl
    rw [mulS_ones one, hv.1] at h
    exact absurd h (by decide)
theorem less_l8 {x y : List Int} (hx : x.length = 8) (hy : y.length = 8) : (less x y 1).length = 8 := by rw [less_len (by rw [hx, hy]), hx]
/-- if some whole row brings nearer, so does a root -/
theorem nearer {x : List Int} (hx : x.length = 8) : ∀ (n : Nat) (v : List Int), Lat v → (mulS v v).toNat = n → mulS v v < 2 * mulS x v → ∃ r ∈ RT, 8 < 2 * mulS x r := by
  intro n
  induction n using Nat.strongRecOn with
  | _ n ih =>
    intro v hv hn h
    have nn : 0 ≤ mulS v v := by
      match v, hv.1 with
      | [a, b, c, d, e, f, g, i], _ =>
        show 0 ≤ a * a + (b * b + (c * c + (d * d + (e * e + (f * f + (g * g + (i * i + 0)))))))
        have := sq_nn a
        have := sq_nn b
        have := sq_nn c
        have := sq_nn d
        have := sq_nn e
        have := sq_nn f
        have := sq_nn g
        have := sq_nn i
        omega
    have m8 := hv.sq
    by_cases h8 : mulS v v = 8
    · exact ⟨v, RT_mk hv h8, by omega⟩
    by_cases h0 : mulS v v = 0
    · exfalso
      have : ∀ {v : List Int}, mulS v v = 0 → ∀ x : List Int, mulS x v = 0 := by
        intro v
        induction v with
        | nil => intro _ x; cases x <;> rfl
        | cons a v ihv =>
          intro hz x
          have e1 : a * a + mulS v v = 0 := by rw [← mulS_cons]; exact hz
          have n1 := sq_nn a
          have n2 : ∀ v : List Int, 0 ≤ mulS v v := fun v => by
            induction v with
            | nil => decide
            | cons b v ih => rw [mulS_cons]; have := sq_nn b; omega
          have := n2 v
          have a0 : a = 0 := by
            have : a * a = 0 := by omega
            rcases Int.mul_eq_zero.mp this with q | q <;> exact q
          cases x with
          | nil => rfl
          | cons y x => rw [mulS_cons, a0, Int.mul_zero, ihv (by omega) x]; rfl
      rw [h0, this h0 x] at h
      omega
    obtain ⟨r, hr, hrv⟩ := big hv (by omega)
    have hl : v.length = r.length := by rw [hv.1, RT_l8 hr]
    have hs : Lat (less v r 1) := hv.less 1 (RT_lat hr)
    have e1 : mulS (less v r 1) (less v r 1) = mulS v v - 2 * mulS r v + 8 := by
      rw [mulS_less 1 hl, mulS_less' 1 hl, mulS_less' 1 hl, RT_sq hr, mulS_comm v r]
      omega
    have e2 : mulS x (less v r 1) = mulS x v - mulS x r := by rw [mulS_less' 1 hl]; omega
    by_cases q : 8 < 2 * mulS x r
    · exact ⟨r, hr, q⟩
    · exact ih _ (by omega) (less v r 1) hs rfl (by omega)
/-- the square of the distance -/
def dst (p w : List Int) : Int := mulS (less p w 1) (less p w 1)
theorem less_add_r : ∀ (p w r : List Int), less p (add w r) 1 = less (less p w 1) r 1
  | [], w, r => by cases w <;> cases r <;> rfl
  | _ :: _, [], r => by cases r <;> rfl
  | _ :: _, _ :: _, [] => rfl
  | a :: p, b :: w, c :: r => by
    show (a - 1 * (b + c)) :: less p (add w r) 1 = (a - 1 * b - 1 * c) :: less (less p w 1) r 1
    rw [less_add_r p w r]
    congr 1
    omega
theorem dst_add {p w r : List Int} (hp : p.length = 8) (hw : w.length = 8) (hr : r.length = 8) : dst p (add w r) = dst p w - 2 * mulS (less p w 1) r + mulS r r := by
  unfold dst
  have hl : (less p w 1).length = r.length := by rw [less_l8 hp hw, hr]
  rw [less_add_r, mulS_less 1 hl, mulS_less' 1 hl, mulS_less' 1 hl, mulS_comm r (less p w 1)]
  omega
theorem add_less_back : ∀ {w u : List Int}, w.length = u.length → add w (less u w 1) = u
  | [], [], _ => rfl
  | a :: w, b :: u, h => by
    show (a + (b - 1 * a)) :: add w (less u w 1) = b :: u
    rw [add_less_back (Nat.succ.inj h : w.length = u.length)]
    congr 1
    omega
theorem voronoi {p w : List Int} (hp : p.length = 8) (hw : Lat w) : (∀ r ∈ RT, dst p w ≤ dst p (add w r)) ↔ ∀ u, Lat u → dst p w ≤ dst p u := by
  constructor
  · intro h u hu
    refine Int.not_lt.mp fun q => ?_
    have hv : Lat (less u w 1) := hu.less 1 hw
    have e := dst_add hp hw.1 hv.1
    rw [add_less_back (by rw [hw.1, hu.1])] at e
    obtain ⟨r, hr, h8⟩ := nearer (less_l8 hp hw.1) _ (less u w 1) hv rfl (by omega)
    have h1 := h r hr
    rw [dst_add hp hw.1 (RT_l8 hr), RT_sq hr] at h1
    omega
  · exact fun h r hr => h _ (hw.add (RT_lat hr))
end Pf

set_option Elab.async false
set_option linter.all false
set_option maxRecDepth 100000
set_option maxHeartbeats 4000000
namespace Pf
open PySem PySem.Spec PyProof.Rows L2

/-! ## the nearest rows of one kind -/
def ch (o a : Int) : List Int := if (a - o) % 2 = 0 then [a] else [a + -1, a + 1]
def prodL : List (List Int) → List (List Int)
  | [] => [[]]
  | c :: cs => c.flatMap fun x => (prodL cs).map fun w => x :: w
def lcn (o : Int) (p : List Int) : Nat := p.countP fun a => !decide ((a - o) % 2 = 0)
theorem dst_cons (a b : Int) (p w : List Int) : dst (a :: p) (b :: w) = (a - b) * (a - b) + dst p w := by
  show mulS ((a - 1 * b) :: less p w 1) ((a - 1 * b) :: less p w 1) = _
  rw [mulS_cons, Int.one_mul]
  rfl
theorem dst_nn (p w : List Int) : 0 ≤ dst p w := by
  unfold dst
  generalize less p w 1 = v
  induction v with
  | nil => decide
  | cons b v ih => rw [mulS_cons]; have := sq_nn b; omega
theorem dst_self : ∀ p : List Int, dst p p = 0
  | [] => rfl
  | a :: p => by rw [dst_cons, dst_self p, Int.sub_self]; rfl
theorem dst_zero : ∀ {p w : List Int}, p.length = w.length → dst p w = 0 → w = p
  | [], [], _, _ => rfl
  | a :: p, b :: w, hl, h => by
    rw [dst_cons] at h
    have h1 := sq_nn (a - b)
    have h2 := dst_nn p w
    have : (a - b) * (a - b) = 0 := by omega
    have e : a - b = 0 := by rcases Int.mul_eq_zero.mp this with q | q <;> exact q
    rw [dst_zero (Nat.succ.inj hl : p.length = w.length) (by omega)]
    congr 1
    omega
theorem lcn_cons_yes {o a : Int} {p : List Int} (h : (a - o) % 2 = 0) : lcn o (a :: p) = lcn o p := by unfold lcn; rw [List.countP_cons_of_neg (by simp [h])]
theorem lcn_cons_no {o a : Int} {p : List Int} (h : ¬ (a - o) % 2 = 0) : lcn o (a :: p) = lcn o p + 1 := by unfold lcn; rw [List.countP_cons_of_pos (by simp [h])]
theorem ch_yes {o a : Int} (h : (a - o) % 2 = 0) : ch o a = [a] := by unfold ch; rw [if_pos h]
theorem ch_no {o a : Int} (h : ¬ (a - o) % 2 = 0) : ch o a = [a + -1, a + 1] := by unfold ch; rw [if_neg h]
theorem prodL_cons {c : List Int} {cs : List (List Int)} {w : List Int} : w ∈ prodL (c :: cs) ↔ ∃ x ∈ c, ∃ v ∈ prodL cs, w = x :: v := by
  show w ∈ c.flatMap _ ↔ _
  rw [List.mem_flatMap]
  constructor
  · rintro ⟨x, hx, h⟩
    obtain ⟨v, hv, rfl⟩ := List.mem_map.mp h
    exact ⟨x, hx, v, hv, rfl⟩
  · rintro ⟨x, hx, v, hv, rfl⟩
    exact ⟨x, hx, List.mem_map.mpr ⟨v, hv, rfl⟩⟩
section
variable {o : Int}
theorem prod_mem : ∀ {p w : List Int}, w ∈ prodL (p.map (ch o)) → w.length = p.length ∧ (∀ a ∈ w, (a - o) % 2 = 0) ∧ dst p w = lcn o p
  | [], w, h => by
    rw [List.mem_singleton.mp (show w ∈ [[]] from h)]
    exact ⟨rfl, fun a ha => by (cases ha), rfl⟩
  | a :: p, w, h => by
    rw [List.map_cons] at h
    obtain ⟨x, hx, v, hv, rfl⟩ := prodL_cons.mp h
    obtain ⟨h1, h2, h3⟩ := prod_mem hv
    refine ⟨by rw [List.length_cons, List.length_cons, h1], fun b hb => ?_, ?_⟩
    · rcases List.mem_cons.mp hb with rfl | hb
      · by_cases q : (a - o) % 2 = 0
        · rw [ch_yes q] at hx; rw [List.mem_singleton.mp hx]; exact q
        · rw [ch_no q] at hx
          rcases List.mem_cons.mp hx with e | hx
          · rw [e]; omega
          · rw [List.mem_singleton.mp hx]; omega
      · exact h2 b hb
    · rw [dst_cons, h3]
      by_cases q : (a - o) % 2 = 0
      · rw [ch_yes q] at hx
        rw [List.mem_singleton.mp hx, lcn_cons_yes q, Int.sub_self]
        omega
      · rw [ch_no q] at hx
        rw [lcn_cons_no q]
        rcases List.mem_cons.mp hx with e | hx
        · rw [e, show a - (a + -1) = 1 by omega]; omega
        · rw [List.mem_singleton.mp hx, show a - (a + 1) = -1 by omega]; omega
theorem sq_odd {d : Int} (h : d % 2 = 1) : 1 ≤ d * d ∧ (d * d = 1 → d = 1 ∨ d = -1) := by
  rcases (show d ≤ -3 ∨ d = -1 ∨ d = 1 ∨ 3 ≤ d by omega) with q | rfl | rfl | q
  · have : 3 * 3 ≤ (-d) * (-d) := Int.mul_le_mul (by omega) (by omega) (by decide) (by omega)
    rw [Int.neg_mul_neg] at this
    exact ⟨by omega, fun e => by omega⟩
  · exact ⟨by decide, fun _ => .inr rfl⟩
  · exact ⟨by decide, fun _ => .inl rfl⟩
  · have : 3 * 3 ≤ d * d := Int.mul_le_mul (by omega) (by omega) (by decide) (by omega)
    exact ⟨by omega, fun e => by omega⟩
theorem sq_even {d : Int} (h : d % 2 = 0) : d = 0 ∨ (d * d = 4 ∧ (d = 2 ∨ d = -2)) ∨ 16 ≤ d * d := by
  rcases (show d ≤ -4 ∨ d = -2 ∨ d = 0 ∨ d = 2 ∨ 4 ≤ d by omega) with q | rfl | rfl | rfl | q
  · have : 4 * 4 ≤ (-d) * (-d) := Int.mul_le_mul (by omega) (by omega) (by decide) (by omega)
    rw [Int.neg_mul_neg] at this
    exact .inr (.inr (by omega))
  · exact .inr (.inl ⟨rfl, .inr rfl⟩)
  · exact .inl rfl
  · exact .inr (.inl ⟨rfl, .inl rfl⟩)
  · have : 4 * 4 ≤ d * d := Int.mul_le_mul (by omega) (by omega) (by decide) (by omega)
    exact .inr (.inr (by omega))
theorem prod_low : ∀ {p w : List Int}, w.length = p.length → (∀ a ∈ w, (a - o) % 2 = 0) → (lcn o p : Int) ≤ dst p w ∧ (dst p w = lcn o p → w ∈ prodL (p.map (ch o)))
  | [], [], _, _ => ⟨by show ((0 : Nat) : Int) ≤ 0; decide, fun _ => List.mem_singleton.mpr rfl⟩
  | a :: p, b :: w, hl, hw => by
    obtain ⟨h1, h2⟩ := prod_low (p := p) (w := w) (Nat.succ.inj hl) fun c hc => hw c (List.mem_cons_of_mem _ hc)
    have hb := hw b List.mem_cons_self
    rw [dst_cons]
    have mk : dst p w = lcn o p → b ∈ ch o a → b :: w ∈ prodL ((a :: p).map (ch o)) := fun e hx => prodL_cons.mpr ⟨b, hx, w, h2 e, rfl⟩
    by_cases q : (a - o) % 2 = 0
    · rw [lcn_cons_yes q]
      have hs := sq_nn (a - b)
      refine ⟨by omega, fun e => mk (by omega) ?_⟩
      have : (a - b) * (a - b) = 0 := by omega
      have e : a - b = 0 := by rcases Int.mul_eq_zero.mp this with q | q <;> exact q
      rw [ch_yes q]
      exact List.mem_singleton.mpr (by omega)
    · rw [lcn_cons_no q]
      obtain ⟨s1, s2⟩ := sq_odd (d := a - b) (by omega)
      refine ⟨by omega, fun e => mk (by omega) ?_⟩
      rw [ch_no q]
      rcases s2 (by omega) with e | e
      · exact List.mem_cons.mpr (.inl (by omega))
      · exact List.mem_cons.mpr (.inr (List.mem_singleton.mpr (by omega)))
theorem flat_nodup {c : List Int} {l : List (List Int)} (hc : c.Nodup) (hl : l.Nodup) : (c.flatMap fun x => l.map fun w => x :: w).Nodup := by
  induction c with
  | nil => exact .nil
  | cons x c ih =>
    rw [List.flatMap_cons]
    obtain ⟨h1, h2⟩ := List.nodup_cons.mp hc
    refine List.nodup_append.mpr ⟨map_nodup hl fun a _ b _ e => (List.cons.inj e).2, ih h2, fun a ha b hb e => ?_⟩
    obtain ⟨u, _, rfl⟩ := List.mem_map.mp ha
    obtain ⟨y, hy, hb⟩ := List.mem_flatMap.mp hb
    obtain ⟨v, _, rfl⟩ := List.mem_map.mp hb
    exact h1 (by rw [(List.cons.inj e).1]; exact hy)
theorem prodL_nodup : ∀ {cs : List (List Int)}, (∀ c ∈ cs, c.Nodup) → (prodL cs).Nodup
  | [], _ => by show [([] : List Int)].Nodup; simp
  | c :: cs, h => flat_nodup (h c List.mem_cons_self) (prodL_nodup fun d hd => h d (List.mem_cons_of_mem _ hd))
theorem ch_nodup (o a : Int) : (ch o a).Nodup := by
  unfold ch
  split
  · simp
  · refine List.nodup_cons.mpr ⟨fun h => ?_, by simp⟩
    have := List.mem_singleton.mp h
    omega
theorem prod_nodup (p : List Int) : (prodL (p.map (ch o))).Nodup := prodL_nodup fun c hc => by
  obtain ⟨a, _, rfl⟩ := List.mem_map.mp hc
  exact ch_nodup o a
theorem sum_par : ∀ p : List Int, (p.sum - p.length * o - lcn o p) % 2 = 0
  | [] => by simp [lcn]
  | a :: p => by
    have ih := sum_par p
    rw [List.sum_cons, List.length_cons]
    by_cases q : (a - o) % 2 = 0
    · rw [lcn_cons_yes q]
      have : ((p.length + 1 : Nat) : Int) * o = p.length * o + o := by rw [Int.natCast_add, Int.add_mul]; simp
      rw [this]
      generalize (p.length : Int) * o = z at ih
      omega
    · rw [lcn_cons_no q]
      have : ((p.length + 1 : Nat) : Int) * o = p.length * o + o := by rw [Int.natCast_add, Int.add_mul]; simp
      rw [this]
      generalize (p.length : Int) * o = z at ih
      omega
theorem prod_none : ∀ {p : List Int}, lcn o p = 0 → prodL (p.map (ch o)) = [p]
  | [], _ => rfl
  | a :: p, h => by
    by_cases q : (a - o) % 2 = 0
    · rw [lcn_cons_yes q] at h
      rw [List.map_cons, ch_yes q]
      show [a].flatMap _ = _
      rw [prod_none h]
      rfl
    · rw [lcn_cons_no q] at h; cases h
def s4 (s : Int) (w : List Int) : Bool := decide ((s + w.sum) % 4 = 0)
theorem count_cons (x s : Int) (l : List (List Int)) : (l.map fun w => x :: w).countP (s4 s) = l.countP (s4 (s + x)) := by
  rw [List.countP_map]
  refine List.countP_congr fun w _ => ?_
  show s4 s (x :: w) = true ↔ _
  unfold s4
  rw [List.sum_cons, Int.add_assoc]
theorem prod_count : ∀ {p : List Int} (s : Int), 0 < lcn o p → (s + p.sum + lcn o p) % 2 = 0 → (prodL (p.map (ch o))).countP (s4 s) = 2 ^ (lcn o p - 1)
  | [], s, h, _ => by cases h
  | a :: p, s, h, hs => by
    rw [List.sum_cons] at hs
    by_cases q : (a - o) % 2 = 0
    · rw [lcn_cons_yes q] at h hs ⊢
      rw [List.map_cons, ch_yes q]
      show ([a].flatMap _).countP _ = _
      rw [List.flatMap_cons, List.flatMap_nil, List.append_nil, count_cons, prod_count (s + a) h (by omega)]
    · rw [lcn_cons_no q] at hs ⊢
      rw [List.map_cons, ch_no q]
      show ([a + -1, a + 1].flatMap _).countP _ = _
      rw [List.flatMap_cons, List.flatMap_cons, List.flatMap_nil, List.append_nil, List.countP_append, count_cons, count_cons]
      by_cases z : lcn o p = 0
      · rw [prod_none z, List.countP_singleton, List.countP_singleton, z]
        unfold s4
        by_cases q1 : (s + (a + -1) + p.sum) % 4 = 0
        · rw [if_pos (by simpa using q1), if_neg (by simp; omega)]
        · rw [if_neg (by simpa using q1), if_pos (by simp; omega)]
      · rw [prod_count (s + (a + -1)) (by omega) (by omega), prod_count (s + (a + 1)) (by omega) (by omega)]
        obtain ⟨n, hn⟩ : ∃ n, lcn o p = n + 1 := ⟨lcn o p - 1, by omega⟩
        rw [hn]
        show 2 ^ n + 2 ^ n = 2 ^ (n + 1)
        rw [Nat.pow_succ]
        omega
end
/-! ### steps of two -/
def stepsL : Nat → List (List Int)
  | 0 => []
  | n + 1 => [2 :: List.replicate n 0, -2 :: List.replicate n 0] ++ (stepsL n).map fun w => 0 :: w
theorem add_zero : ∀ p : List Int, add p (List.replicate p.length 0) = p
  | [] => rfl
  | a :: p => by
    show (a + 0) :: add p (List.replicate p.length 0) = a :: p
    rw [add_zero p, Int.add_zero]
theorem step_mem : ∀ {p t : List Int}, t ∈ stepsL p.length → t.length = p.length ∧ dst p (add p t) = 4 ∧ (∀ a ∈ t, a % 2 = 0) ∧ (t.sum = 2 ∨ t.sum = -2)
  | [], t, h => by cases h
  | a :: p, t, h => by
    have zs : ∀ n, (List.replicate n (0 : Int)).sum = 0 := fun n => by induction n with
      | zero => rfl
      | succ n ih => rw [List.replicate_succ, List.sum_cons, ih]; rfl
    have base : ∀ s : Int, s = 2 ∨ s = -2 → (s :: List.replicate p.length 0).length = (a :: p).length ∧ dst (a :: p) (add (a :: p) (s :: List.replicate p.length 0)) = 4 ∧ (∀ b ∈ s :: List.replicate p.length 0, b % 2 = 0) ∧ ((s :: List.replicate p.length 0).sum = 2 ∨ (s :: List.replicate p.length 0).sum = -2) := fun s hs => by
      refine ⟨by simp, ?_, fun b hb => ?_, by rw [List.sum_cons, zs]; omega⟩
      · show dst (a :: p) ((a + s) :: add p (List.replicate p.length 0)) = 4
        rw [dst_cons, add_zero, dst_self, show a - (a + s) = -s by omega]
        rcases hs with rfl | rfl <;> rfl
      · rcases List.mem_cons.mp hb with rfl | hb
        · rcases hs with rfl | rfl <;> rfl
        · rw [(List.mem_replicate.mp hb).2]; rfl
    rcases List.mem_append.mp (show t ∈ [2 :: List.replicate p.length 0, -2 :: List.replicate p.length 0] ++ (stepsL p.length).map fun w => 0 :: w from h) with h | h
    · rcases List.mem_cons.mp h with rfl | h
      · exact base 2 (.inl rfl)
      · rw [List.mem_singleton.mp h]; exact base (-2) (.inr rfl)
    · obtain ⟨v, hv, rfl⟩ := List.mem_map.mp h
      obtain ⟨h1, h2, h3, h4⟩ := step_mem hv
      refine ⟨by rw [List.length_cons, List.length_cons, h1], ?_, fun b hb => ?_, by rw [List.sum_cons]; omega⟩
      · show dst (a :: p) ((a + 0) :: add p v) = 4
        rw [dst_cons, h2, show a - (a + 0) = 0 by omega]
        rfl
      · rcases List.mem_cons.mp hb with rfl | hb
        · rfl
        · exact h3 b hb
theorem step_low : ∀ {p w : List Int}, w.length = p.length → (∀ o : Int, ∀ k : Nat, (p.getD k 0 - w.getD k 0) % 2 = 0) → w = p ∨ (4 ≤ dst p w ∧ (dst p w = 4 → ∃ t ∈ stepsL p.length, w = add p t))
  | [], [], _, _ => .inl rfl
  | a :: p, b :: w, hl, hw => by
    have hl' : w.length = p.length := Nat.succ.inj hl
    have h0 : (a - b) % 2 = 0 := hw 0 0
    have hn := dst_nn p w
    rcases sq_even h0 with e | ⟨e1, e2⟩ | e
    · have eb : b = a := by omega
      subst eb
      rcases step_low hl' fun o k => hw o (k + 1) with e | ⟨h1, h2⟩
      · exact .inl (by rw [e])
      · refine .inr ⟨by rw [dst_cons, Int.sub_self]; omega, fun h => ?_⟩
        rw [dst_cons, Int.sub_self] at h
        obtain ⟨t, ht, e⟩ := h2 (by omega)
        refine ⟨0 :: t, List.mem_append_right _ (List.mem_map.mpr ⟨t, ht, rfl⟩), ?_⟩
        show b :: w = (b + 0) :: add p t
        rw [e, Int.add_zero]
    · refine .inr ⟨by rw [dst_cons, e1]; omega, fun h => ?_⟩
      rw [dst_cons, e1] at h
      have ew := dst_zero hl'.symm (show dst p w = 0 by omega)
      subst ew
      rcases e2 with e2 | e2
      · refine ⟨-2 :: List.replicate w.length 0, List.mem_append_left _ (by simp), ?_⟩
        show b :: w = (a + -2) :: add w (List.replicate w.length 0)
        rw [add_zero]
        congr 1
        omega
      · refine ⟨2 :: List.replicate w.length 0, List.mem_append_left _ (by simp), ?_⟩
        show b :: w = (a + 2) :: add w (List.replicate w.length 0)
        rw [add_zero]
        congr 1
        omega
    · exact .inr ⟨by rw [dst_cons]; omega, fun h => by rw [dst_cons] at h; omega⟩
end Pf

set_option Elab.async false
set_option linter.all false
set_option maxRecDepth 100000
set_option maxHeartbeats 4000000
namespace Pf
open PySem PySem.Spec PyProof.Rows L2

/-! ## the nearest rows -/
def NK (o : Int) (p : List Int) : List (List Int) := if lcn o p = 0 ∧ p.sum % 4 ≠ 0 then (stepsL 8).map (add p) else (prodL (p.map (ch o))).filter fun w => decide (w.sum % 4 = 0)
def dK (o : Int) (p : List Int) : Int := if lcn o p = 0 ∧ p.sum % 4 ≠ 0 then 4 else lcn o p
def Par (o : Int) (w : List Int) : Prop := ∀ a ∈ w, (a - o) % 2 = 0
theorem lat_of_par {o : Int} {w : List Int} (hl : w.length = 8) (h : Par o w) (hs : w.sum % 4 = 0) : Lat w := by
  refine ⟨hl, fun a ha => ?_, hs⟩
  have h0 : (w.headD 0 - o) % 2 = 0 := by
    cases w with
    | nil => cases hl
    | cons b w => exact h b List.mem_cons_self
  have := h a ha
  omega
theorem par_of_lat {w : List Int} (h : Lat w) : Par 0 w ∨ Par 1 w := by
  by_cases q : w.headD 0 % 2 = 0
  · exact .inl fun a ha => by have := h.2.1 a ha; omega
  · exact .inr fun a ha => by have := h.2.1 a ha; omega
theorem lcn_zero {o : Int} {p : List Int} (h : lcn o p = 0) : Par o p := fun a ha => by
  have := List.countP_eq_zero.mp h a ha
  simpa using this
theorem add_par {o : Int} : ∀ {p t : List Int}, Par o p → (∀ b ∈ t, b % 2 = 0) → Par o (add p t)
  | [], t, _, _ => by intro a ha; cases t <;> cases ha
  | _ :: _, [], _, _ => by intro a ha; cases ha
  | a :: p, b :: t, hp, ht => by
    intro c hc
    rcases List.mem_cons.mp (show c ∈ (a + b) :: add p t from hc) with rfl | hc
    · have h1 := hp a List.mem_cons_self
      have h2 := ht b List.mem_cons_self
      omega
    · exact add_par (fun u hu => hp u (List.mem_cons_of_mem _ hu)) (fun u hu => ht u (List.mem_cons_of_mem _ hu)) c hc
theorem add_sum : ∀ {p t : List Int}, t.length = p.length → (add p t).sum = p.sum + t.sum
  | [], [], _ => rfl
  | a :: p, b :: t, h => by
    show ((a + b) :: add p t).sum = _
    rw [List.sum_cons, add_sum (Nat.succ.inj h : t.length = p.length), List.sum_cons, List.sum_cons]
    omega
theorem add_inj : ∀ {p a b : List Int}, a.length = p.length → b.length = p.length → add p a = add p b → a = b
  | [], [], [], _, _, _ => rfl
  | x :: p, a :: as, b :: bs, h1, h2, h => by
    have h' : (x + a) :: add p as = (x + b) :: add p bs := h
    injection h' with e1 e2
    rw [add_inj (Nat.succ.inj h1) (Nat.succ.inj h2) e2]
    congr 1
    omega
section
variable {p : List Int} (hp : p.length = 8)
include hp in
theorem NK_in {o : Int} {w : List Int} (h : w ∈ NK o p) : Lat w ∧ Par o w ∧ dst p w = dK o p := by
  unfold NK at h
  unfold dK
  by_cases q : lcn o p = 0 ∧ p.sum % 4 ≠ 0
  · rw [if_pos q] at h ⊢
    obtain ⟨t, ht, rfl⟩ := List.mem_map.mp h
    obtain ⟨h1, h2, h3, h4⟩ := step_mem (p := p) (t := t) (by rw [hp]; exact ht)
    have hpar := add_par (lcn_zero q.1) h3
    refine ⟨lat_of_par (by rw [add_len h1.symm, hp]) hpar ?_, hpar, h2⟩
    have := sum_par (o := o) p
    rw [add_sum h1]
    rw [q.1, hp] at this
    omega
  · rw [if_neg q] at h ⊢
    obtain ⟨h1, h2⟩ := List.mem_filter.mp h
    obtain ⟨h3, h4, h5⟩ := prod_mem h1
    exact ⟨lat_of_par (by rw [h3, hp]) h4 (by simpa using h2), h4, h5⟩
include hp in
theorem NK_low {o : Int} {w : List Int} (hw : Lat w) (hpar : Par o w) : dK o p ≤ dst p w ∧ (dst p w = dK o p → w ∈ NK o p) := by
  unfold NK dK
  have hl : w.length = p.length := by rw [hw.1, hp]
  by_cases q : lcn o p = 0 ∧ p.sum % 4 ≠ 0
  · rw [if_pos q, if_pos q]
    have hpp := lcn_zero q.1
    have hk : ∀ o' : Int, ∀ k : Nat, (p.getD k 0 - w.getD k 0) % 2 = 0 := fun _ k => by
      by_cases hk : k < 8
      · have h1 : p.getD k 0 ∈ p := by rw [List.getD_eq_getElem?_getD, List.getElem?_eq_getElem (by rw [hp]; exact hk)]; exact List.getElem_mem _
        have h2 : w.getD k 0 ∈ w := by rw [List.getD_eq_getElem?_getD, List.getElem?_eq_getElem (by rw [hw.1]; exact hk)]; exact List.getElem_mem _
        have := hpp _ h1
        have := hpar _ h2
        omega
      · rw [List.getD_eq_getElem?_getD, List.getD_eq_getElem?_getD, List.getElem?_eq_none (by rw [hp]; omega), List.getElem?_eq_none (by rw [hw.1]; omega)]
        decide
    rcases step_low hl hk with e | ⟨h1, h2⟩
    · exact absurd (by rw [← e]; exact hw.2.2) q.2
    · refine ⟨h1, fun e => ?_⟩
      obtain ⟨t, ht, e2⟩ := h2 e
      rw [hp] at ht
      exact List.mem_map.mpr ⟨t, ht, e2.symm⟩
  · rw [if_neg q, if_neg q]
    obtain ⟨h1, h2⟩ := prod_low hl hpar
    exact ⟨h1, fun e => List.mem_filter.mpr ⟨h2 e, by simpa using hw.2.2⟩⟩
include hp in
theorem NK_nodup (o : Int) : (NK o p).Nodup := by
  unfold NK
  split
  · refine map_nodup (by decide +kernel) fun a ha b hb e => ?_
    have l : ∀ t ∈ stepsL 8, t.length = 8 := by decide +kernel
    exact add_inj (by rw [l a ha, hp]) (by rw [l b hb, hp]) e
  · exact (prod_nodup p).sublist List.filter_sublist
include hp in
theorem NK_len (o : Int) : (NK o p).length = if lcn o p = 0 then (if p.sum % 4 = 0 then 1 else 16) else 2 ^ (lcn o p - 1) := by
  unfold NK
  by_cases z : lcn o p = 0
  · rw [if_pos z]
    by_cases q : p.sum % 4 = 0
    · rw [if_neg (fun h => h.2 q), if_pos q, prod_none z, List.filter_cons_of_pos (by simpa using q)]
      rfl
    · rw [if_pos ⟨z, q⟩, if_neg q, List.length_map]
      decide +kernel
  · rw [if_neg (fun h => z h.1), if_neg z, ← List.countP_eq_length_filter]
    have h := prod_count (o := o) (p := p) 0 (by omega) (by
      have := sum_par (o := o) p
      rw [hp] at this
      omega)
    rw [← h]
    refine List.countP_congr fun w _ => ?_
    unfold s4
    rw [Int.zero_add]
include hp in
theorem NK_pos (o : Int) : 0 < (NK o p).length := by
  rw [NK_len hp]
  split
  · split <;> decide
  · exact Nat.pow_pos (by decide)
/-- the least square of a distance -/
def lst (p : List Int) : Int := if dK 0 p ≤ dK 1 p then dK 0 p else dK 1 p
def nall (p : List Int) : List (List Int) := NK 0 p ++ NK 1 p
def NR (p : List Int) : List (List Int) := ((nall p).filter fun w => decide (dst p w = lst p)).mergeSort (leL ltR)
include hp in
theorem nall_in {w : List Int} (h : w ∈ nall p) : Lat w ∧ lst p ≤ dst p w := by
  unfold lst
  rcases List.mem_append.mp h with h | h
  · obtain ⟨h1, _, h3⟩ := NK_in hp h
    exact ⟨h1, by rw [h3]; split <;> omega⟩
  · obtain ⟨h1, _, h3⟩ := NK_in hp h
    exact ⟨h1, by rw [h3]; split <;> omega⟩
include hp in
theorem lst_le {u : List Int} (hu : Lat u) : lst p ≤ dst p u := by
  unfold lst
  rcases par_of_lat hu with q | q
  · have := (NK_low hp hu q).1
    split <;> omega
  · have := (NK_low hp hu q).1
    split <;> omega
include hp in
theorem lst_is : ∃ w ∈ nall p, dst p w = lst p := by
  unfold lst
  obtain ⟨w0, h0⟩ := List.exists_mem_of_length_pos (NK_pos hp 0)
  obtain ⟨w1, h1⟩ := List.exists_mem_of_length_pos (NK_pos hp 1)
  split
  · exact ⟨w0, List.mem_append_left _ h0, (NK_in hp h0).2.2⟩
  · exact ⟨w1, List.mem_append_right _ h1, (NK_in hp h1).2.2⟩
include hp in
theorem NR_iff {w : List Int} : w ∈ NR p ↔ Lat w ∧ dst p w = lst p := by
  unfold NR
  rw [(List.mergeSort_perm _ _).mem_iff, List.mem_filter, decide_eq_true_eq]
  constructor
  · rintro ⟨h1, h2⟩
    exact ⟨(nall_in hp h1).1, h2⟩
  · rintro ⟨h1, h2⟩
    refine ⟨?_, h2⟩
    have := lst_le hp h1
    rcases par_of_lat h1 with q | q
    · obtain ⟨h3, h4⟩ := NK_low hp h1 q
      by_cases e : dst p w = dK 0 p
      · exact List.mem_append_left _ (h4 e)
      · exfalso
        unfold lst at h2
        split at h2 <;> omega
    · obtain ⟨h3, h4⟩ := NK_low hp h1 q
      by_cases e : dst p w = dK 1 p
      · exact List.mem_append_right _ (h4 e)
      · exfalso
        unfold lst at h2
        split at h2 <;> omega
include hp in
theorem NR_min {w : List Int} : w ∈ NR p ↔ Lat w ∧ ∀ u, Lat u → dst p w ≤ dst p u := by
  rw [NR_iff hp]
  constructor
  · rintro ⟨h1, h2⟩
    exact ⟨h1, fun u hu => by rw [h2]; exact lst_le hp hu⟩
  · rintro ⟨h1, h2⟩
    obtain ⟨v, hv, e⟩ := lst_is hp
    have := h2 v (nall_in hp hv).1
    have := lst_le hp h1
    exact ⟨h1, by omega⟩
theorem asc_of {l : List (List Int)} (h : l.Nodup) : (l.mergeSort (leL ltR)).Pairwise fun a b => ltR a b = true := by
  have hn : (l.mergeSort (leL ltR)).Nodup := (List.mergeSort_perm l _).nodup_iff.mpr h
  have := (sort_pw tot_row l).and hn
  refine this.imp fun {a b} ⟨h1, h2⟩ => ?_
  unfold leL at h1
  cases q : ltR a b with
  | true => rfl
  | false => exact absurd (tot_row.tri a b q (by simpa using h1)) h2
include hp in
theorem nall_nodup : (nall p).Nodup := by
  refine List.nodup_append.mpr ⟨NK_nodup hp 0, NK_nodup hp 1, fun a ha b hb e => ?_⟩
  obtain ⟨l1, p1, _⟩ := NK_in hp ha
  obtain ⟨_, p2, _⟩ := NK_in hp hb
  rw [← e] at p2
  cases a with
  | nil => cases l1.1
  | cons x a =>
    have := p1 x List.mem_cons_self
    have := p2 x List.mem_cons_self
    omega
include hp in
theorem NR_asc : (NR p).Pairwise fun a b => ltR a b = true := asc_of ((nall_nodup hp).sublist List.filter_sublist)
include hp in
theorem NR_pos : 0 < (NR p).length := by
  obtain ⟨w, h1, h2⟩ := lst_is hp
  exact List.length_pos_of_mem ((NR_iff hp).mpr ⟨(nall_in hp h1).1, h2⟩)
end
theorem lcn_both : ∀ p : List Int, lcn 0 p + lcn 1 p = p.length
  | [] => rfl
  | a :: p => by
    have ih := lcn_both p
    rw [List.length_cons]
    by_cases q : (a - 0) % 2 = 0
    · rw [lcn_cons_yes q, lcn_cons_no (o := 1) (by omega)]; omega
    · rw [lcn_cons_no q, lcn_cons_yes (o := 1) (by omega)]; omega
end Pf

set_option Elab.async false
set_option linter.all false
set_option maxRecDepth 100000
set_option maxHeartbeats 4000000
namespace Pf
open PySem PySem.Spec PyProof.Rows L2

/-! ## rows alike by two -/
def Cl (R a : List Int) : Prop := Lat a ∧ Tw (less R a 1)
theorem less_back1 : ∀ {R h : List Int}, R.length = h.length → less R (less R h 2) 1 = smul 2 h
  | [], [], _ => rfl
  | a :: R, b :: h, hl => by
    show (a - 1 * (a - 2 * b)) :: less R (less R h 2) 1 = (2 * b) :: smul 2 h
    rw [less_back1 (Nat.succ.inj hl : R.length = h.length)]
    congr 1
    omega
theorem less_back2 : ∀ {R a h : List Int}, R.length = a.length → a.length = h.length → less R a 1 = smul 2 h → a = less R h 2
  | [], [], [], _, _, _ => rfl
  | x :: R, y :: a, z :: h, h1, h2, e => by
    have e' : (x - 1 * y) :: less R a 1 = (2 * z) :: smul 2 h := e
    injection e' with e1 e2
    show y :: a = (x - 2 * z) :: less R h 2
    rw [← less_back2 (Nat.succ.inj h1 : R.length = a.length) (Nat.succ.inj h2 : a.length = h.length) e2]
    congr 1
    omega
theorem less_neg1 : ∀ {R a : List Int}, less R (neg a) 1 = add R a
  | [], a => by cases a <;> rfl
  | _ :: _, [] => rfl
  | x :: R, y :: a => by
    show (x - 1 * (-1 * y)) :: less R (neg a) 1 = (x + y) :: add R a
    rw [less_neg1]
    congr 1
    omega
theorem less_add2 : ∀ {R a : List Int}, R.length = a.length → add R a = add (less R a 1) (smul 2 a)
  | [], [], _ => rfl
  | x :: R, y :: a, h => by
    show (x + y) :: add R a = (x - 1 * y + 2 * y) :: add (less R a 1) (smul 2 a)
    rw [less_add2 (Nat.succ.inj h : R.length = a.length)]
    congr 1
    omega
theorem less_two : ∀ (p w : List Int), less (smul 2 p) w 2 = smul 2 (less p w 1)
  | [], w => by cases w <;> rfl
  | _ :: _, [] => rfl
  | x :: p, y :: w => by
    show (2 * x - 2 * y) :: less (smul 2 p) w 2 = (2 * (x - 1 * y)) :: smul 2 (less p w 1)
    rw [less_two p w]
    congr 1
    omega
theorem smul_sum (m : Int) : ∀ p : List Int, (smul m p).sum = m * p.sum
  | [] => by simp [smul]
  | a :: p => by
    show (m * a :: smul m p).sum = _
    rw [List.sum_cons, smul_sum m p, List.sum_cons, Int.mul_add]
theorem mulS_two (x : List Int) : mulS (smul 2 x) (smul 2 x) = 4 * mulS x x := by rw [mulS_smul, mulS_comm, mulS_smul]; omega
section
variable {R : List Int} (hR : Lat R)
include hR in
theorem Cl.at {a : List Int} (h : Cl R a) : ∃ w, Lat w ∧ less R a 1 = smul 2 w ∧ a = less R w 2 := by
  obtain ⟨ha, w, hw, e⟩ := h
  exact ⟨w, hw, e, less_back2 (by rw [hR.1, ha.1]) (by rw [ha.1, hw.1]) e⟩
include hR in
theorem Cl.of {w : List Int} (hw : Lat w) : Cl R (less R w 2) := ⟨hR.less 2 hw, w, hw, less_back1 (by rw [hR.1, hw.1])⟩
include hR in
theorem Cl.neg {a : List Int} (h : Cl R a) : Cl R (neg a) := by
  refine ⟨neg_lat h.1, ?_⟩
  rw [less_neg1, less_add2 (by rw [hR.1, h.1.1])]
  exact (tw_mod (hR.less 1 h.1) h.1).mpr h.2
include hR in
/-- mirrored by twice a row, a row is alike to the same ones -/
theorem Cl.moved {r a : List Int} (hr : Lat r) : Cl (add R (smul 2 r)) a ↔ Cl R a := by
  have e : ∀ {R r a : List Int}, R.length = r.length → R.length = a.length → less (add R (smul 2 r)) a 1 = add (less R a 1) (smul 2 r) := by
    intro R
    induction R with
    | nil => intro r a h1 h2; cases r with
      | nil => cases a <;> rfl
      | cons _ _ => cases h1
    | cons x R ih =>
      intro r a h1 h2
      cases r with
      | nil => cases h1
      | cons y r =>
        cases a with
        | nil => cases h2
        | cons z a =>
          show (x + 2 * y - 1 * z) :: less (add R (smul 2 r)) a 1 = (x - 1 * z + 2 * y) :: add (less R a 1) (smul 2 r)
          rw [ih (Nat.succ.inj h1) (Nat.succ.inj h2)]
          congr 1
          omega
  unfold Cl
  refine and_congr_right fun ha => ?_
  rw [e (by rw [hR.1, hr.1]) (by rw [hR.1, ha.1])]
  exact tw_mod (hR.less 1 ha) hr
variable {p : List Int} (hp : R = smul 2 p)
include hR hp in
theorem p8 : p.length = 8 := by
  have := hR.1
  rw [hp, smul_len] at this
  exact this
include hR hp in
theorem Cl.dst {w : List Int} : mulS (less R w 2) (less R w 2) = 4 * dst p w := by
  rw [hp, less_two, mulS_two]
  rfl
include hR hp in
theorem dst_even {w : List Int} (hw : Lat w) : Pf.dst p w % 2 = 0 := by
  have h := ((hR.less 2 hw).sq)
  rw [Cl.dst hR hp] at h
  omega
theorem lst_le4 {p : List Int} (h : p.length = 8) : lst p ≤ 4 := by
  have := lcn_both p
  rw [h] at this
  unfold lst dK
  split <;> split <;> split <;> omega
include hR hp in
theorem lst_cases : lst p = 0 ∨ lst p = 2 ∨ lst p = 4 := by
  have h1 := lst_le4 (p8 hR hp)
  obtain ⟨w, hw, e⟩ := lst_is (p8 hR hp)
  have h2 := dst_nn p w
  have h3 := dst_even hR hp (nall_in (p8 hR hp) hw).1
  omega
include hR hp in
theorem tw_lst : Tw R ↔ lst p = 0 := by
  constructor
  · rintro ⟨h, hh, e⟩
    have e2 : p = h := by rw [← half_smul p, ← hp, e, half_smul]
    have h1 := lst_le (p8 hR hp) hh
    rw [e2, dst_self, ← e2] at h1
    obtain ⟨w, hw, e⟩ := lst_is (p8 hR hp)
    have h2 := dst_nn p w
    omega
  · intro h
    obtain ⟨w, hw, e⟩ := lst_is (p8 hR hp)
    have hl := (nall_in (p8 hR hp) hw).1
    have := dst_zero (p := p) (w := w) (by rw [p8 hR hp, hl.1]) (by omega)
    exact ⟨p, by rw [← this]; exact hl, hp⟩
include hR hp in
theorem root_lst {r : List Int} (hr : r ∈ RT) (h : Tw (less R r 1)) : lst p = 2 := by
  obtain ⟨w, hw, _, e⟩ := Cl.at hR ⟨RT_lat hr, h⟩
  have h1 := lst_le (p8 hR hp) hw
  have h2 := Cl.dst hR hp (w := w)
  rw [← e, RT_sq hr] at h2
  rcases lst_cases hR hp with q | q | q
  · exfalso
    obtain ⟨v, hv, e3⟩ := (tw_lst hR hp).mpr q
    have e4 : r = smul 2 (less v w 1) := by rw [e, e3, less_two]
    have h3 := (hv.less 1 hw).sq
    have h4 := RT_sq hr
    rw [e4, mulS_two] at h4
    omega
  · exact q
  · omega
include hR hp in
theorem lst_root (h : lst p = 2) {w : List Int} (hw : w ∈ NR p) : less R w 2 ∈ RT ∧ Tw (less R (less R w 2) 1) := by
  obtain ⟨h1, h2⟩ := (NR_iff (p8 hR hp)).mp hw
  have c := Cl.of hR h1
  exact ⟨RT_mk c.1 (by rw [Cl.dst hR hp, h2, h]; rfl), c.2⟩
include hR in
/-- two roots alike: the one or its contrary -/
theorem root_two {r s : List Int} (hr : r ∈ RT) (hs : s ∈ RT) (h1 : Tw (less R r 1)) (h2 : Tw (less R s 1)) : s = r ∨ s = neg r := by
  obtain ⟨v, hv, _, e1⟩ := Cl.at hR ⟨RT_lat hr, h1⟩
  obtain ⟨w, hw, _, e2⟩ := Cl.at hR ⟨RT_lat hs, h2⟩
  have hl : r.length = s.length := by rw [RT_l8 hr, RT_l8 hs]
  have e3 : ∀ {R v w : List Int}, R.length = v.length → R.length = w.length → less (less R v 2) (less R w 2) 1 = smul 2 (less w v 1) := by
    intro R
    induction R with
    | nil => intro v w h1 h2; cases v with
      | nil => cases w with
        | nil => rfl
        | cons _ _ => cases h2
      | cons _ _ => cases h1
    | cons x R ih =>
      intro v w h1 h2
      cases v with
      | nil => cases h1
      | cons y v =>
        cases w with
        | nil => cases h2
        | cons z w =>
          show (x - 2 * y - 1 * (x - 2 * z)) :: less (less R v 2) (less R w 2) 1 = (2 * (z - 1 * y)) :: smul 2 (less w v 1)
          rw [ih (Nat.succ.inj h1) (Nat.succ.inj h2)]
          congr 1
          omega
  have e4 : less r s 1 = smul 2 (less w v 1) := by rw [e1, e2, e3 (by rw [hR.1, hv.1]) (by rw [hR.1, hw.1])]
  have h3 : mulS (less r s 1) (less r s 1) = 16 - 2 * mulS r s := by
    rw [mulS_less 1 hl, mulS_less' 1 hl, mulS_less' 1 hl, RT_sq hr, RT_sq hs, mulS_comm s r]
    omega
  rw [e4, mulS_two] at h3
  have h4 := (hw.less 1 hv).sq
  have h5 : 0 ≤ mulS (less r s 1) (less r s 1) := dst_nn r s
  have h6 : mulS (less r (neg s) 1) (less r (neg s) 1) = 16 + 2 * mulS r s := by
    have hl' : r.length = (neg s).length := by unfold neg; rw [smul_len, hl]
    rw [mulS_less 1 hl', mulS_less' 1 hl', mulS_less' 1 hl', mulS_neg', mulS_neg', mulS_neg, mulS_neg, RT_sq hr, RT_sq hs, mulS_comm s r]
    omega
  have h7 : 0 ≤ mulS (less r (neg s) 1) (less r (neg s) 1) := dst_nn r (neg s)
  rw [e4, mulS_two] at h5
  have h8 : mulS r s = 8 ∨ mulS r s = -8 := by omega
  rcases h8 with q | q
  · exact .inl (dst_zero (p := r) (w := s) hl (by show mulS (less r s 1) (less r s 1) = 0; rw [e4, mulS_two]; omega))
  · refine .inr ?_
    have := dst_zero (p := r) (w := neg s) (by unfold neg; rw [smul_len, hl]) (by show mulS (less r (neg s) 1) (less r (neg s) 1) = 0; rw [h6, q]; rfl)
    rw [← this, neg_neg]
/-! ### how many are nearest -/
include hR hp in
theorem NR_one (h : lst p = 0) : (NR p).length = 1 := by
  have all : ∀ w ∈ NR p, w = p := fun w hw => by
    obtain ⟨h1, h2⟩ := (NR_iff (p8 hR hp)).mp hw
    exact dst_zero (by rw [p8 hR hp, h1.1]) (by rw [h2, h])
  have hn := lt_nodup tot_row (NR_asc (p8 hR hp))
  have hpos := NR_pos (p8 hR hp)
  match hN : NR p, all, hn, hpos with
  | [x], _, _, _ => rfl
  | x :: y :: l, all, hn, _ =>
    exfalso
    have e1 := all x (by simp)
    have e2 := all y (by simp)
    exact (List.nodup_cons.mp hn).1 (by rw [e1, ← e2]; simp)
include hR hp in
theorem NR_two (h : lst p = 2) : (NR p).length = 2 := by
  obtain ⟨w, hw⟩ := List.exists_mem_of_length_pos (NR_pos (p8 hR hp))
  obtain ⟨hr, ht⟩ := lst_root hR hp h hw
  obtain ⟨hwl, hwd⟩ := (NR_iff (p8 hR hp)).mp hw
  have hn := lt_nodup tot_row (NR_asc (p8 hR hp))
  -- the other
  obtain ⟨v, hv, _, ev⟩ := Cl.at hR (Cl.neg hR ⟨RT_lat hr, ht⟩)
  have hvN : v ∈ NR p := (NR_iff (p8 hR hp)).mpr ⟨hv, by
    have e := Cl.dst hR hp (w := v)
    rw [← ev, mulS_neg, mulS_neg', RT_sq hr] at e
    omega⟩
  have hne : v ≠ w := fun e => by
    rw [e] at ev
    have := mulS_neg (less R w 2) (less R w 2)
    rw [ev, RT_sq hr] at this
    cases this
  have sub : ∀ u ∈ NR p, u ∈ [w, v] := fun u hu => by
    obtain ⟨h1, h2⟩ := lst_root hR hp h hu
    obtain ⟨hul, _⟩ := (NR_iff (p8 hR hp)).mp hu
    have inj : ∀ {x y : List Int}, Lat x → Lat y → less R x 2 = less R y 2 → x = y := fun {x y} hx hy e => by
      have := less_back1 (R := R) (h := x) (by rw [hR.1, hx.1])
      rw [e, less_back1 (by rw [hR.1, hy.1])] at this
      rw [← half_smul x, ← this, half_smul]
    rcases root_two hR hr h1 ht h2 with e | e
    · rw [inj hul hwl e]; simp
    · rw [inj hul hv (by rw [e]; exact ev)]; simp
  have l1 := sub_len hn sub
  have l2 := sub_len (l := [w, v]) (m := NR p) (by simp [Ne.symm hne]) fun u hu => by
    rcases List.mem_cons.mp hu with rfl | hu
    · exact hw
    · rw [List.mem_singleton.mp hu]; exact hvN
  simp only [List.length_cons, List.length_nil] at l1 l2
  omega
include hR hp in
theorem NR_four (h : lst p = 4) : (NR p).length = 16 := by
  have h8 := p8 hR hp
  have one : ∀ o, (∀ w ∈ NK o p, Pf.dst p w = dK o p) := fun o w hw => (NK_in h8 hw).2.2
  have fl : ∀ o, ((NK o p).filter fun w => decide (Pf.dst p w = lst p)).length = if dK o p = 4 then (NK o p).length else 0 := fun o => by
    by_cases q : dK o p = 4
    · rw [if_pos q, List.filter_eq_self.mpr fun w hw => by rw [one o w hw, q, h]; rfl]
    · rw [if_neg q, List.filter_eq_nil_iff.mpr fun w hw => by rw [one o w hw, h]; simpa using q]
      rfl
  unfold NR nall
  rw [(List.mergeSort_perm _ _).length_eq, List.filter_append, List.length_append, fl, fl, NK_len h8, NK_len h8]
  have hb := lcn_both p
  rw [h8] at hb
  have hev : lcn 0 p % 2 = 0 := by
    have s1 := sum_par (o := 0) p
    have s2 := hR.2.2
    have s3 : R.sum = 2 * p.sum := by rw [hp, smul_sum]
    rw [h8] at s1
    omega
  unfold lst at h
  have h0 : dK 0 p = if lcn 0 p = 0 ∧ p.sum % 4 ≠ 0 then (4 : Int) else (lcn 0 p : Int) := rfl
  have h1 : dK 1 p = if lcn 1 p = 0 ∧ p.sum % 4 ≠ 0 then (4 : Int) else (lcn 1 p : Int) := rfl
  by_cases z0 : lcn 0 p = 0
  · have z1 : lcn 1 p = 8 := by omega
    rw [z0] at h0
    rw [z1] at h1
    rw [z0, z1]
    by_cases q : p.sum % 4 = 0
    · rw [if_neg (fun x => x.2 q)] at h0
      rw [if_neg (fun x => absurd x.1 (by decide))] at h1
      rw [h0, h1] at h
      exact absurd h (by decide)
    · rw [if_pos ⟨rfl, q⟩] at h0
      rw [if_neg (by simp)] at h1
      rw [h0, h1]
      simp [q]
  · by_cases z1 : lcn 1 p = 0
    · have z0 : lcn 0 p = 8 := by omega
      rw [z0] at h0
      rw [z1] at h1
      rw [z0, z1]
      by_cases q : p.sum % 4 = 0
      · rw [if_neg (fun x => x.2 q)] at h1
        rw [if_neg (by simp)] at h0
        rw [h0, h1] at h
        exact absurd h (by decide)
      · rw [if_pos ⟨rfl, q⟩] at h1
        rw [if_neg (by simp)] at h0
        rw [h0, h1]
        simp [q]
    · rw [if_neg (fun x => z0 x.1)] at h0
      rw [if_neg (fun x => z1 x.1)] at h1
      rw [h0, h1] at h
      have : lcn 0 p = 4 := by
        split at h <;> omega
      have : lcn 1 p = 4 := by omega
      rw [h0, h1]
      simp_all
end
end Pf

set_option Elab.async false
set_option linter.all false
set_option maxRecDepth 100000
set_option maxHeartbeats 4000000
namespace Pf
open PySem PySem.Spec PyProof.Rows L2

/-! ## frames by residues -/
def RS (k : Int) : List Int := if k = 0 then [0] else if k = 1 then [-3, 1] else if k = 2 then [-2, 2] else [-1, 3]
def res (m : Int) (R : List Int) : List Int := R.map fun x => (x + m).fmod 4
def e4L : Nat → List (List Int)
  | 0 => []
  | n + 1 => [-4 :: List.replicate n 0, 4 :: List.replicate n 0] ++ (e4L n).map fun w => 0 :: w
def rr (q : List Int) : List (List Int) := ((prodL (q.map RS)).filter fun w => decide (dot w w = 4)) ++ if q.sum = 0 then e4L 8 else []
def FR (R : List Int) : List (List Int) := ((rr (res 0 R) ++ rr (res 2 R)).filter fun a => twb (less R a 1)).mergeSort (leL ltR)
def Cong (m : Int) : List Int → List Int → Prop
  | [], [] => True
  | x :: R, a :: w => (a - x - m) % 4 = 0 ∧ Cong m R w
  | _, _ => False
theorem RS_mem {k a : Int} (h0 : 0 ≤ k) (h1 : k < 4) : a ∈ RS k ↔ a.natAbs ≤ 3 ∧ (a - k) % 4 = 0 := by
  unfold RS
  rcases (show k = 0 ∨ k = 1 ∨ k = 2 ∨ k = 3 by omega) with rfl | rfl | rfl | rfl
  · rw [if_pos rfl, List.mem_singleton]; omega
  · rw [if_neg (by decide), if_pos rfl]; simp; omega
  · rw [if_neg (by decide), if_neg (by decide), if_pos rfl]; simp; omega
  · rw [if_neg (by decide), if_neg (by decide), if_neg (by decide)]; simp; omega
theorem RS_nodup (k : Int) : (RS k).Nodup := by
  unfold RS
  split
  · decide
  · split
    · decide
    · split <;> decide
theorem fm4 (x : Int) : x.fmod 4 = x % 4 := Int.fmod_eq_emod_of_nonneg _ (by decide)
theorem prod_res {m : Int} : ∀ {R w : List Int}, w ∈ prodL ((res m R).map RS) ↔ Cong m R w ∧ ∀ a ∈ w, a.natAbs ≤ 3
  | [], [] => ⟨fun _ => ⟨trivial, fun a ha => (by cases ha)⟩, fun _ => List.mem_singleton.mpr rfl⟩
  | [], b :: w => ⟨fun h => (by cases (List.mem_singleton.mp (show (b :: w) ∈ [[]] from h))), fun h => h.1.elim⟩
  | x :: R, [] => ⟨fun h => by
      obtain ⟨y, _, v, _, e⟩ := prodL_cons.mp h
      exact (List.cons_ne_nil _ _ e.symm).elim, fun h => h.1.elim⟩
  | x :: R, b :: w => by
    have ih := prod_res (m := m) (R := R) (w := w)
    have hb : b ∈ RS ((x + m).fmod 4) ↔ b.natAbs ≤ 3 ∧ (b - x - m) % 4 = 0 := by
      rw [fm4, RS_mem (Int.emod_nonneg _ (by decide)) (Int.emod_lt_of_pos _ (by decide))]
      refine and_congr_right fun _ => ?_
      omega
    constructor
    · intro h
      obtain ⟨y, hy, v, hv, e⟩ := prodL_cons.mp h
      injection e with e1 e2
      subst e1 e2
      obtain ⟨h1, h2⟩ := hb.mp hy
      obtain ⟨h3, h4⟩ := ih.mp hv
      exact ⟨⟨h2, h3⟩, fun a ha => by
        rcases List.mem_cons.mp ha with rfl | ha
        · exact h1
        · exact h4 a ha⟩
    · rintro ⟨⟨h1, h2⟩, h3⟩
      exact prodL_cons.mpr ⟨b, hb.mpr ⟨h3 b List.mem_cons_self, h1⟩, w, ih.mpr ⟨h2, fun a ha => h3 a (List.mem_cons_of_mem _ ha)⟩, rfl⟩
theorem Cong.len {m : Int} : ∀ {R w : List Int}, Cong m R w → w.length = R.length
  | [], [], _ => rfl
  | [], _ :: _, h => h.elim
  | _ :: _, [], h => h.elim
  | x :: R, a :: w, h => by rw [List.length_cons, List.length_cons, Cong.len h.2]
theorem mulS_rep0 (n : Nat) : mulS (List.replicate n 0) (List.replicate n 0) = 0 := by
  induction n with
  | zero => rfl
  | succ n ih => rw [List.replicate_succ, mulS_cons, ih]; rfl
theorem e4_in : ∀ {n : Nat} {a : List Int}, a ∈ e4L n → a.length = n ∧ mulS a a = 16 ∧ (∀ x ∈ a, x % 4 = 0) ∧ ∃ x ∈ a, 4 ≤ x.natAbs
  | 0, a, h => by cases h
  | n + 1, a, h => by
    have base : ∀ s : Int, s = -4 ∨ s = 4 → (s :: List.replicate n 0).length = n + 1 ∧ mulS (s :: List.replicate n 0) (s :: List.replicate n 0) = 16 ∧ (∀ x ∈ s :: List.replicate n 0, x % 4 = 0) ∧ ∃ x ∈ s :: List.replicate n 0, 4 ≤ x.natAbs := fun s hs => by
      refine ⟨by simp, ?_, fun b hb => ?_, s, List.mem_cons_self, by omega⟩
      · rw [mulS_cons, mulS_rep0]
        rcases hs with rfl | rfl <;> rfl
      · rcases List.mem_cons.mp hb with rfl | hb
        · rcases hs with rfl | rfl <;> rfl
        · rw [(List.mem_replicate.mp hb).2]; rfl
    rcases List.mem_append.mp (show a ∈ [-4 :: List.replicate n 0, 4 :: List.replicate n 0] ++ (e4L n).map fun w => 0 :: w from h) with h | h
    · rcases List.mem_cons.mp h with rfl | h
      · exact base (-4) (.inl rfl)
      · rw [List.mem_singleton.mp h]; exact base 4 (.inr rfl)
    · obtain ⟨v, hv, rfl⟩ := List.mem_map.mp h
      obtain ⟨h1, h2, h3, x, h4, h5⟩ := e4_in hv
      refine ⟨by rw [List.length_cons, h1], by rw [mulS_cons, h2]; rfl, fun b hb => ?_, x, List.mem_cons_of_mem _ h4, h5⟩
      rcases List.mem_cons.mp hb with rfl | hb
      · rfl
      · exact h3 b hb
theorem sq_ge4 {x : Int} (h : 4 ≤ x.natAbs) : 16 ≤ x * x := by
  rcases (show x ≤ -4 ∨ 4 ≤ x by omega) with q | q
  · have : 4 * 4 ≤ (-x) * (-x) := Int.mul_le_mul (by omega) (by omega) (by decide) (by omega)
    rw [Int.neg_mul_neg] at this
    omega
  · have : 4 * 4 ≤ x * x := Int.mul_le_mul (by omega) (by omega) (by decide) (by omega)
    omega
theorem mulS_nn0 : ∀ x : List Int, 0 ≤ mulS x x
  | [] => by decide
  | a :: x => by
    rw [mulS_cons]
    have := mulS_nn0 x
    have := sq_nn a
    omega
theorem mulS_all0 : ∀ {v : List Int}, mulS v v = 0 → v = List.replicate v.length 0
  | [], _ => rfl
  | a :: v, h => by
    rw [mulS_cons] at h
    have h1 := sq_nn a
    have h2 := mulS_nn0 v
    have : a * a = 0 := by omega
    have e : a = 0 := by rcases Int.mul_eq_zero.mp this with q | q <;> exact q
    rw [List.length_cons, List.replicate_succ, ← mulS_all0 (v := v) (by omega), e]
theorem e4_of : ∀ {a : List Int}, mulS a a = 16 → (∃ x ∈ a, 4 ≤ x.natAbs) → a ∈ e4L a.length
  | [], h, _ => by cases h
  | b :: v, h, ⟨x, hx, h4⟩ => by
    rw [mulS_cons] at h
    have hn := mulS_nn0 v
    have hb := sq_nn b
    by_cases q : 4 ≤ b.natAbs
    · have := sq_ge4 q
      have hv := mulS_all0 (v := v) (by omega)
      have hb2 : b = -4 ∨ b = 4 := by
        have hbb : b * b = 16 := by omega
        have : b.natAbs ≤ 4 := by
          refine Nat.le_of_not_lt fun z => ?_
          rcases (show b ≤ -5 ∨ 5 ≤ b by omega) with q | q
          · have : 5 * 5 ≤ (-b) * (-b) := Int.mul_le_mul (by omega) (by omega) (by decide) (by omega)
            rw [Int.neg_mul_neg] at this
            omega
          · have : 5 * 5 ≤ b * b := Int.mul_le_mul (by omega) (by omega) (by decide) (by omega)
            omega
        omega
      show b :: v ∈ [-4 :: List.replicate v.length 0, 4 :: List.replicate v.length 0] ++ (e4L v.length).map fun w => 0 :: w
      refine List.mem_append_left _ ?_
      rw [← hv]
      rcases hb2 with rfl | rfl <;> simp
    · have hxv : x ∈ v := by
        rcases List.mem_cons.mp hx with e | hx
        · rw [e] at h4; exact absurd h4 q
        · exact hx
      have big : 16 ≤ mulS v v := by
        clear h hn hb q hx
        induction v with
        | nil => cases hxv
        | cons y v ih =>
          rw [mulS_cons]
          have h1 := mulS_nn0 v
          have h2 := sq_nn y
          rcases List.mem_cons.mp hxv with e | hxv
          · have := sq_ge4 h4; rw [e] at this; omega
          · have := ih hxv; omega
      have : b * b = 0 := by omega
      have e : b = 0 := by rcases Int.mul_eq_zero.mp this with q | q <;> exact q
      subst e
      exact List.mem_append_right _ (List.mem_map.mpr ⟨v, e4_of (by omega) ⟨x, hxv, h4⟩, rfl⟩)
theorem res_sum {m : Int} : ∀ {R : List Int}, 0 ≤ (res m R).sum ∧ ((res m R).sum = 0 ↔ ∀ x ∈ R, (x + m) % 4 = 0)
  | [] => ⟨by show (0 : Int) ≤ 0; decide, ⟨fun _ x hx => (by cases hx), fun _ => rfl⟩⟩
  | x :: R => by
    obtain ⟨h1, h2⟩ := res_sum (m := m) (R := R)
    have e : (res m (x :: R)).sum = (x + m) % 4 + (res m R).sum := by
      show ((x + m).fmod 4 :: res m R).sum = _
      rw [List.sum_cons, fm4]
    have hn := Int.emod_nonneg (x + m) (show (4 : Int) ≠ 0 by decide)
    rw [e]
    refine ⟨by omega, ⟨fun h y hy => ?_, fun h => ?_⟩⟩
    · rcases List.mem_cons.mp hy with rfl | hy
      · omega
      · exact h2.mp (by omega) y hy
    · have := h x List.mem_cons_self
      have := h2.mpr fun y hy => h y (List.mem_cons_of_mem _ hy)
      omega
theorem cong_zero {m : Int} : ∀ {R a : List Int}, a.length = R.length → (∀ x ∈ a, x % 4 = 0) → ((∀ x ∈ R, (x + m) % 4 = 0) ↔ Cong m R a)
  | [], [], _, _ => ⟨fun _ => trivial, fun _ x hx => by cases hx⟩
  | x :: R, b :: a, hl, ha => by
    have ih := cong_zero (m := m) (R := R) (a := a) (Nat.succ.inj hl) fun y hy => ha y (List.mem_cons_of_mem _ hy)
    have hb := ha b List.mem_cons_self
    constructor
    · intro h
      exact ⟨by have := h x List.mem_cons_self; omega, ih.mp fun y hy => h y (List.mem_cons_of_mem _ hy)⟩
    · rintro ⟨h1, h2⟩ y hy
      rcases List.mem_cons.mp hy with rfl | hy
      · omega
      · exact ih.mpr h2 y hy
section
variable {R : List Int} (hR : Lat R)
include hR in
theorem rr_mem {m : Int} {a : List Int} : a ∈ rr (res m R) ↔ Cong m R a ∧ (((∀ x ∈ a, x.natAbs ≤ 3) ∧ dot a a = 4) ∨ a ∈ e4L 8) := by
  unfold rr
  rw [List.mem_append, List.mem_filter, prod_res, decide_eq_true_eq]
  constructor
  · rintro (⟨⟨h1, h2⟩, h3⟩ | h)
    · exact ⟨h1, .inl ⟨h2, h3⟩⟩
    · split at h
      · rename_i hs
        obtain ⟨e1, _, e3, _⟩ := e4_in h
        exact ⟨(cong_zero (by rw [e1, hR.1]) e3).mp ((res_sum (m := m)).2.mp hs), .inr h⟩
      · cases h
  · rintro ⟨h1, ⟨h2, h3⟩ | h⟩
    · exact .inl ⟨⟨h1, h2⟩, h3⟩
    · refine .inr ?_
      obtain ⟨e1, _, e3, _⟩ := e4_in h
      rw [if_pos ((res_sum (m := m)).2.mpr ((cong_zero (by rw [e1, hR.1]) e3).mpr h1))]
      exact h
theorem cong_par {o : Int} : ∀ {R w : List Int}, R.length = w.length → Par o w → Cong (2 * o) R (less R w 2)
  | [], [], _, _ => trivial
  | x :: R, y :: w, h, hw => ⟨by
      have := hw y List.mem_cons_self
      show (x - 2 * y - x - 2 * o) % 4 = 0
      omega, cong_par (Nat.succ.inj h) fun z hz => hw z (List.mem_cons_of_mem _ hz)⟩
include hR in
theorem FR_mem {a : List Int} : a ∈ FR R ↔ Cl R a ∧ mulS a a = 16 := by
  unfold FR
  rw [(List.mergeSort_perm _ _).mem_iff, List.mem_filter, List.mem_append, rr_mem hR, rr_mem hR, tw_iff]
  constructor
  · rintro ⟨h, ht⟩
    have core : ∀ m, (Cong m R a ∧ (((∀ x ∈ a, x.natAbs ≤ 3) ∧ dot a a = 4) ∨ a ∈ e4L 8)) → Cl R a ∧ mulS a a = 16 := fun m ⟨h1, h2⟩ => by
      obtain ⟨v, hv, e⟩ := ht
      have ha : Lat a := by
        rw [less_back2 (by rw [h1.len]) (by rw [h1.len, hR.1, hv.1]) e]
        exact hR.less 2 hv
      refine ⟨⟨ha, v, hv, e⟩, ?_⟩
      rcases h2 with ⟨_, h3⟩ | h3
      · have := ha.dot ha; omega
      · exact (e4_in h3).2.1
    rcases h with h | h
    · exact core 0 h
    · exact core 2 h
  · rintro ⟨hc, h16⟩
    refine ⟨?_, hc.2⟩
    obtain ⟨w, hw, _, e⟩ := Cl.at hR hc
    have fin : ((∀ x ∈ a, x.natAbs ≤ 3) ∧ dot a a = 4) ∨ a ∈ e4L 8 := by
      by_cases q : ∃ x ∈ a, 4 ≤ x.natAbs
      · refine .inr ?_
        have := e4_of h16 q
        rwa [hc.1.1] at this
      · refine .inl ⟨fun x hx => ?_, ?_⟩
        · exact Nat.le_of_not_lt fun z => q ⟨x, hx, z⟩
        · have := hc.1.dot hc.1; omega
    rcases par_of_lat hw with q | q
    · have := cong_par (R := R) (by rw [hR.1, hw.1]) q
      rw [← e] at this
      exact .inl ⟨this, fin⟩
    · have := cong_par (R := R) (by rw [hR.1, hw.1]) q
      rw [← e] at this
      exact .inr ⟨this, fin⟩
include hR in
theorem FR_nodup0 : ((rr (res 0 R) ++ rr (res 2 R))).Nodup := by
  have one : ∀ m, (rr (res m R)).Nodup := fun m => by
    unfold rr
    refine List.nodup_append.mpr ⟨(prodL_nodup fun c hc => ?_).sublist List.filter_sublist, ?_, fun a ha b hb e => ?_⟩
    · obtain ⟨k, _, rfl⟩ := List.mem_map.mp hc
      exact RS_nodup k
    · split
      · decide +kernel
      · exact .nil
    · subst e
      obtain ⟨_, h2⟩ := prod_res.mp (List.mem_filter.mp ha).1
      split at hb
      · obtain ⟨_, _, _, x, hx, h4⟩ := e4_in hb
        have := h2 x hx
        omega
      · cases hb
  refine List.nodup_append.mpr ⟨one 0, one 2, fun a ha b hb e => ?_⟩
  subst e
  have h1 := ((rr_mem hR).mp ha).1
  have h2 := ((rr_mem hR).mp hb).1
  match R, hR.1, a, h1, h2 with
  | x :: R, _, [], h1, _ => exact h1.elim
  | x :: R, _, y :: a, h1, h2 =>
    have := h1.1
    have := h2.1
    omega
include hR in
theorem FR_asc : (FR R).Pairwise fun a b => ltR a b = true := asc_of ((FR_nodup0 hR).sublist List.filter_sublist)
/-! ## the nearest rows by the rows alike -/
def duL (R : List Int) (l : List (List Int)) : List (List Int) := (l.map fun a => half (add R a)).mergeSort (leL ltR)
variable {p : List Int} (hp : R = smul 2 p)
include hR hp in
theorem due_eq {l : List (List Int)} (hn : l.Nodup) (hl : ∀ a, a ∈ l ↔ Cl R a ∧ mulS a a = 4 * lst p) : duL R l = NR p := by
  have h8 := p8 hR hp
  have key : ∀ {a}, Cl R a → ∃ h, Lat h ∧ add R a = smul 2 h ∧ half (add R a) = h ∧ neg a = less R h 2 := fun {a} hc => by
    obtain ⟨h, hh, e1, e2⟩ := Cl.at hR (Cl.neg hR hc)
    rw [less_neg1] at e1
    exact ⟨h, hh, e1, by rw [e1, half_smul], e2⟩
  have nd : (l.map fun a => half (add R a)).Nodup := map_nodup hn fun a ha b hb e => by
    obtain ⟨ca, _⟩ := (hl a).mp ha
    obtain ⟨cb, _⟩ := (hl b).mp hb
    obtain ⟨h, hh, e1, e2, _⟩ := key ca
    obtain ⟨k, hk, f1, f2, _⟩ := key cb
    have : h = k := by rw [← e2, ← f2]; exact e
    exact add_inj (p := R) (by rw [ca.1.1, hR.1]) (by rw [cb.1.1, hR.1]) (by rw [e1, f1, this])
  refine asc_uniq tot_row (asc_of nd) (NR_asc h8) fun w => ?_
  unfold duL
  rw [(List.mergeSort_perm _ _).mem_iff, NR_iff h8]
  constructor
  · intro h
    obtain ⟨a, ha, rfl⟩ := List.mem_map.mp h
    obtain ⟨c, e⟩ := (hl a).mp ha
    obtain ⟨h, hh, _, e2, e3⟩ := key c
    rw [e2]
    refine ⟨hh, ?_⟩
    have := Cl.dst hR hp (w := h)
    rw [← e3, mulS_neg, mulS_neg', e] at this
    omega
  · rintro ⟨hw, hd⟩
    have c := Cl.neg hR (Cl.of hR hw)
    refine List.mem_map.mpr ⟨neg (less R w 2), (hl _).mpr ⟨c, ?_⟩, ?_⟩
    · rw [mulS_neg, mulS_neg', Cl.dst hR hp, hd]; omega
    · have : add R (neg (less R w 2)) = smul 2 w := by
        rw [← less_neg1, neg_neg, less_back1 (by rw [hR.1, hw.1])]
      show half (add R (neg (less R w 2))) = w
      rw [this, half_smul]
end
end Pf

set_option Elab.async false
set_option linter.all false
set_option maxRecDepth 100000
set_option maxHeartbeats 4000000
namespace Pf
open PySem PySem.Spec PyProof.Rows L2

/-! ## the 2160 rows of square 4 -/
def e4c (k : Nat) : List (List Int) := [(-4 : Int), 4].map fun x => List.replicate k 0 ++ [x] ++ List.replicate (7 - k) 0
def chE : List (List Int) := List.replicate 8 [-2, 0, 2]
def chO (k : Nat) : List (List Int) := (List.range 8).map fun p => if p = k then [-3, 3] else [-1, 1]
def Q0 : List (List Int) := ((prodL chE).filter fun w => decide (dot w w = 4) && decide (w.sum.fmod 4 = 0)) ++ (List.range 8).flatMap fun k => e4c k ++ (prodL (chO k)).filter fun w => decide (w.sum.fmod 4 = 0)
def FOn : List Nat := [71582788, 322122549, 322122579, 322123059, 322123093, 322130739, 322130773, 322131253, 322131283, 322253619, 322253653, 322254133, 322254163, 322261813, 322261843, 322262323, 322262357, 324219699, 324219733, 324220213, 324220243, 324227893, 324227923, 324228403, 324228437, 324350773, 324350803, 324351283, 324351317, 324358963, 324358997, 324359477, 324359507, 355676979, 355677013, 355677493, 355677523, 355685173, 355685203, 355685683, 355685717, 355808053, 355808083, 355808563, 355808597, 355816243, 355816277, 355816757, 355816787, 357774133, 357774163, 357774643, 357774677, 357782323, 357782357, 357782837, 357782867, 357905203, 357905237, 357905717, 357905747, 357913397, 357913427, 357913907, 357913941, 572671044, 572793924, 572801604, 572802084, 572802114, 572802118, 572802148, 572802628, 572810308, 572933188, 574760004, 574767684, 574768164, 574768194, 574768198, 574768228, 574768708, 574776388, 574890564, 574891044, 574891074, 574891078, 574891108, 574891588, 574898724, 574898754, 574898758, 574898788, 574899234, 574899238, 574899298, 574899302, 574899748, 574899778, 574899782, 574899812, 574906948, 574907428, 574907458, 574907462, 574907492, 574907972, 575022148, 575029828, 575030308, 575030338, 575030342, 575030372, 575030852, 575038532, 576865348, 576988228, 576995908, 576996388, 576996418, 576996422, 576996452, 576996932, 577004612, 577127492, 606217284, 606224964, 606225444, 606225474, 606225478, 606225508, 606225988, 606233668, 606347844, 606348324, 606348354, 606348358, 606348388, 606348868, 606356004, 606356034, 606356038, 606356068, 606356514, 606356518, 606356578, 606356582, 606357028, 606357058, 606357062, 606357092, 606364228, 606364708, 606364738, 606364742, 606364772, 606365252, 606479428, 606487108, 606487588, 606487618, 606487622, 606487652, 606488132, 606495812, 608313924, 608314404, 608314434, 608314438, 608314468, 608314948, 608322084, 608322114, 608322118, 608322148, 608322594, 608322598, 608322658, 608322662, 608323108, 608323138, 608323142, 608323172, 608330308, 608330788, 608330818, 608330822, 608330852, 608331332, 608444964, 608444994, 608444998, 608445028, 608445474, 608445478, 608445538, 608445542, 608445988, 608446018, 608446022, 608446052, 608453154, 608453158, 608453218, 608453222, 608454178, 608454182, 608454242, 608454246, 608461348, 608461378, 608461382, 608461412, 608461858, 608461862, 608461922, 608461926, 608462372, 608462402, 608462406, 608462436, 608576068, 608576548, 608576578, 608576582, 608576612, 608577092, 608584228, 608584258, 608584262, 608584292, 608584738, 608584742, 608584802, 608584806, 608585252, 608585282, 608585286, 608585316, 608592452, 608592932, 608592962, 608592966, 608592996, 608593476, 610411588, 610419268, 610419748, 610419778, 610419782, 610419812, 610420292, 610427972, 610542148, 610542628, 610542658, 610542662, 610542692, 610543172, 610550308, 610550338, 610550342, 610550372, 610550818, 610550822, 610550882, 610550886, 610551332, 610551362, 610551366, 610551396, 610558532, 610559012, 610559042, 610559046, 610559076, 610559556, 610673732, 610681412, 610681892, 610681922, 610681926, 610681956, 610682436, 610690116, 639779908, 639902788, 639910468, 639910948, 639910978, 639910982, 639911012, 639911492, 639919172, 640042052, 641868868, 641876548, 641877028, 641877058, 641877062, 641877092, 641877572, 641885252, 641999428, 641999908, 641999938, 641999942, 641999972, 642000452, 642007588, 642007618, 642007622, 642007652, 642008098, 642008102, 642008162, 642008166, 642008612, 642008642, 642008646, 642008676, 642015812, 642016292, 642016322, 642016326, 642016356, 642016836, 642131012, 642138692, 642139172, 642139202, 642139206, 642139236, 642139716, 642147396, 643974212, 644097092, 644104772, 644105252, 644105282, 644105286, 644105316, 644105796, 644113476, 644236356, 825439029, 825439059, 825439539, 825439573, 825447219, 825447253, 825447733, 825447763, 825570099, 825570133, 825570613, 825570643, 825578293, 825578323, 825578803, 825578837, 827536179, 827536213, 827536693, 827536723, 827544373, 827544403, 827544883, 827544917, 827667253, 827667283, 827667763, 827667797, 827675443, 827675477, 827675957, 827675987, 856896309, 856896339, 856896819, 856896853, 856904499, 856904533, 856905013, 856905043, 857027379, 857027413, 857027893, 857027923, 857035573, 857035603, 857036083, 857036117, 858862389, 858862419, 858862899, 858862933, 858870579, 858870613, 858871093, 858871123, 858985269, 858985299, 858985779, 858985813, 858992949, 858992979, 858993429, 858993463, 858993489, 858993523, 858993939, 858993969, 858994007, 858994037, 858994483, 858994517, 859001139, 859001173, 859001619, 859001649, 859001687, 859001717, 859002133, 859002167, 859002193, 859002227, 859002677, 859002707, 859009843, 859009877, 859010357, 859010387, 859116339, 859116373, 859116853, 859116883, 859124019, 859124053, 859124499, 859124529, 859124567, 859124597, 859125013, 859125047, 859125073, 859125107, 859125557, 859125587, 859132213, 859132243, 859132693, 859132727, 859132753, 859132787, 859133203, 859133233, 859133271, 859133301, 859133747, 859133781, 859140917, 859140947, 859141427, 859141461, 859255603, 859255637, 859256117, 859256147, 859263797, 859263827, 859264307, 859264341, 860959539, 860959573, 860960053, 860960083, 860967733, 860967763, 860968243, 860968277, 861082419, 861082453, 861082933, 861082963, 861090099, 861090133, 861090579, 861090609, 861090647, 861090677, 861091093, 861091127, 861091153, 861091187, 861091637, 861091667, 861098293, 861098323, 861098773, 861098807, 861098833, 861098867, 861099283, 861099313, 861099351, 861099381, 861099827, 861099861, 861106997, 861107027, 861107507, 861107541, 861213493, 861213523, 861214003, 861214037, 861221173, 861221203, 861221653, 861221687, 861221713, 861221747, 861222163, 861222193, 861222231, 861222261, 861222707, 861222741, 861229363, 861229397, 861229843, 861229873, 861229911, 861229941, 861230357, 861230391, 861230417, 861230451, 861230901, 861230931, 861238067, 861238101, 861238581, 861238611, 861352757, 861352787, 861353267, 861353301, 861360947, 861360981, 861361461, 861361491, 863187763, 863187797, 863188277, 863188307, 863195957, 863195987, 863196467, 863196501, 863318837, 863318867, 863319347, 863319381, 863327027, 863327061, 863327541, 863327571, 890450739, 890450773, 890451253, 890451283, 890458933, 890458963, 890459443, 890459477, 890581813, 890581843, 890582323, 890582357, 890590003, 890590037, 890590517, 890590547, 892416819, 892416853, 892417333, 892417363, 892425013, 892425043, 892425523, 892425557, 892539699, 892539733, 892540213, 892540243, 892547379, 892547413, 892547859, 892547889, 892547927, 892547957, 892548373, 892548407, 892548433, 892548467, 892548917, 892548947, 892555573, 892555603, 892556053, 892556087, 892556113, 892556147, 892556563, 892556593, 892556631, 892556661, 892557107, 892557141, 892564277, 892564307, 892564787, 892564821, 892670773, 892670803, 892671283, 892671317, 892678453, 892678483, 892678933, 892678967, 892678993, 892679027, 892679443, 892679473, 892679511, 892679541, 892679987, 892680021, 892686643, 892686677, 892687123, 892687153, 892687191, 892687221, 892687637, 892687671, 892687697, 892687731, 892688181, 892688211, 892695347, 892695381, 892695861, 892695891, 892810037, 892810067, 892810547, 892810581, 892818227, 892818261, 892818741, 892818771, 894513973, 894514003, 894514483, 894514517, 894522163, 894522197, 894522677, 894522707, 894636853, 894636883, 894637363, 894637397, 894644533, 894644563, 894645013, 894645047, 894645073, 894645107, 894645523, 894645553, 894645591, 894645621, 894646067, 894646101, 894652723, 894652757, 894653203, 894653233, 894653271, 894653301, 894653717, 894653751, 894653777, 894653811, 894654261, 894654291, 894661427, 894661461, 894661941, 894661971, 894767923, 894767957, 894768437, 894768467, 894775603, 894775637, 894776083, 894776113, 894776151, 894776181, 894776597, 894776631, 894776657, 894776691, 894777141, 894777171, 894783797, 894783827, 894784277, 894784311, 894784337, 894784371, 894784787, 894784817, 894784855, 894784885, 894785331, 894785365, 894792501, 894792531, 894793011, 894793045, 894907187, 894907221, 894907701, 894907731, 894915381, 894915411, 894915891, 894915925, 896742197, 896742227, 896742707, 896742741, 896750387, 896750421, 896750901, 896750931, 896873267, 896873301, 896873781, 896873811, 896881461, 896881491, 896881971, 896882005, 926102323, 926102357, 926102837, 926102867, 926110517, 926110547, 926111027, 926111061, 926233397, 926233427, 926233907, 926233941, 926241587, 926241621, 926242101, 926242131, 928199477, 928199507, 928199987, 928200021, 928207667, 928207701, 928208181, 928208211, 928330547, 928330581, 928331061, 928331091, 928338741, 928338771, 928339251, 928339285, 1078215748, 1109533764, 1109541444, 1109541924, 1109541954, 1109541958, 1109541988, 1109542468, 1109550148, 1109664324, 1109664804, 1109664834, 1109664838, 1109664868, 1109665348, 1109672484, 1109672514, 1109672518, 1109672548, 1109672994, 1109672998, 1109673058, 1109673062, 1109673508, 1109673538, 1109673542, 1109673572, 1109680708, 1109681188, 1109681218, 1109681222, 1109681252, 1109681732, 1109795908, 1109803588, 1109804068, 1109804098, 1109804102, 1109804132, 1109804612, 1109812292, 1111630404, 1111630884, 1111630914, 1111630918, 1111630948, 1111631428, 1111638564, 1111638594, 1111638598, 1111638628, 1111639074, 1111639078, 1111639138, 1111639142, 1111639588, 1111639618, 1111639622, 1111639652, 1111646788, 1111647268, 1111647298, 1111647302, 1111647332, 1111647812, 1111761444, 1111761474, 1111761478, 1111761508, 1111761954, 1111761958, 1111762018, 1111762022, 1111762468, 1111762498, 1111762502, 1111762532, 1111769634, 1111769638, 1111769698, 1111769702, 1111770658, 1111770662, 1111770722, 1111770726, 1111777828, 1111777858, 1111777862, 1111777892, 1111778338, 1111778342, 1111778402, 1111778406, 1111778852, 1111778882, 1111778886, 1111778916, 1111892548, 1111893028, 1111893058, 1111893062, 1111893092, 1111893572, 1111900708, 1111900738, 1111900742, 1111900772, 1111901218, 1111901222, 1111901282, 1111901286, 1111901732, 1111901762, 1111901766, 1111901796, 1111908932, 1111909412, 1111909442, 1111909446, 1111909476, 1111909956, 1113728068, 1113735748, 1113736228, 1113736258, 1113736262, 1113736292, 1113736772, 1113744452, 1113858628, 1113859108, 1113859138, 1113859142, 1113859172, 1113859652, 1113866788, 1113866818, 1113866822, 1113866852, 1113867298, 1113867302, 1113867362, 1113867366, 1113867812, 1113867842, 1113867846, 1113867876, 1113875012, 1113875492, 1113875522, 1113875526, 1113875556, 1113876036, 1113990212, 1113997892, 1113998372, 1113998402, 1113998406, 1113998436, 1113998916, 1114006596, 1141130308, 1143087684, 1143088164, 1143088194, 1143088198, 1143088228, 1143088708, 1143095844, 1143095874, 1143095878, 1143095908, 1143096354, 1143096358, 1143096418, 1143096422, 1143096868, 1143096898, 1143096902, 1143096932, 1143104068, 1143104548, 1143104578, 1143104582, 1143104612, 1143105092, 1143218724, 1143218754, 1143218758, 1143218788, 1143219234, 1143219238, 1143219298, 1143219302, 1143219748, 1143219778, 1143219782, 1143219812, 1143226914, 1143226918, 1143226978, 1143226982, 1143227938, 1143227942, 1143228002, 1143228006, 1143235108, 1143235138, 1143235142, 1143235172, 1143235618, 1143235622, 1143235682, 1143235686, 1143236132, 1143236162, 1143236166, 1143236196, 1143349828, 1143350308, 1143350338, 1143350342, 1143350372, 1143350852, 1143357988, 1143358018, 1143358022, 1143358052, 1143358498, 1143358502, 1143358562, 1143358566, 1143359012, 1143359042, 1143359046, 1143359076, 1143366212, 1143366692, 1143366722, 1143366726, 1143366756, 1143367236, 1145062468, 1145184804, 1145184834, 1145184838, 1145184868, 1145185314, 1145185318, 1145185378, 1145185382, 1145185828, 1145185858, 1145185862, 1145185892, 1145192994, 1145192998, 1145193058, 1145193062, 1145194018, 1145194022, 1145194082, 1145194086, 1145201188, 1145201218, 1145201222, 1145201252, 1145201698, 1145201702, 1145201762, 1145201766, 1145202212, 1145202242, 1145202246, 1145202276, 1145308228, 1145315874, 1145315878, 1145315938, 1145315942, 1145316898, 1145316902, 1145316962, 1145316966, 1145323588, 1145324548, 1145324608, 1145324616, 1145324676, 1145325636, 1145332258, 1145332262, 1145332322, 1145332326, 1145333282, 1145333286, 1145333346, 1145333350, 1145340996, 1145446948, 1145446978, 1145446982, 1145447012, 1145447458, 1145447462, 1145447522, 1145447526, 1145447972, 1145448002, 1145448006, 1145448036, 1145455138, 1145455142, 1145455202, 1145455206, 1145456162, 1145456166, 1145456226, 1145456230, 1145463332, 1145463362, 1145463366, 1145463396, 1145463842, 1145463846, 1145463906, 1145463910, 1145464356, 1145464386, 1145464390, 1145464420, 1145586756, 1147281988, 1147282468, 1147282498, 1147282502, 1147282532, 1147283012, 1147290148, 1147290178, 1147290182, 1147290212, 1147290658, 1147290662, 1147290722, 1147290726, 1147291172, 1147291202, 1147291206, 1147291236, 1147298372, 1147298852, 1147298882, 1147298886, 1147298916, 1147299396, 1147413028, 1147413058, 1147413062, 1147413092, 1147413538, 1147413542, 1147413602, 1147413606, 1147414052, 1147414082, 1147414086, 1147414116, 1147421218, 1147421222, 1147421282, 1147421286, 1147422242, 1147422246, 1147422306, 1147422310, 1147429412, 1147429442, 1147429446, 1147429476, 1147429922, 1147429926, 1147429986, 1147429990, 1147430436, 1147430466, 1147430470, 1147430500, 1147544132, 1147544612, 1147544642, 1147544646, 1147544676, 1147545156, 1147552292, 1147552322, 1147552326, 1147552356, 1147552802, 1147552806, 1147552866, 1147552870, 1147553316, 1147553346, 1147553350, 1147553380, 1147560516, 1147560996, 1147561026, 1147561030, 1147561060, 1147561540, 1149518916, 1176642628, 1176650308, 1176650788, 1176650818, 1176650822, 1176650852, 1176651332, 1176659012, 1176773188, 1176773668, 1176773698, 1176773702, 1176773732, 1176774212, 1176781348, 1176781378, 1176781382, 1176781412, 1176781858, 1176781862, 1176781922, 1176781926, 1176782372, 1176782402, 1176782406, 1176782436, 1176789572, 1176790052, 1176790082, 1176790086, 1176790116, 1176790596, 1176904772, 1176912452, 1176912932, 1176912962, 1176912966, 1176912996, 1176913476, 1176921156, 1178739268, 1178739748, 1178739778, 1178739782, 1178739812, 1178740292, 1178747428, 1178747458, 1178747462, 1178747492, 1178747938, 1178747942, 1178748002, 1178748006, 1178748452, 1178748482, 1178748486, 1178748516, 1178755652, 1178756132, 1178756162, 1178756166, 1178756196, 1178756676, 1178870308, 1178870338, 1178870342, 1178870372, 1178870818, 1178870822, 1178870882, 1178870886, 1178871332, 1178871362, 1178871366, 1178871396, 1178878498, 1178878502, 1178878562, 1178878566, 1178879522, 1178879526, 1178879586, 1178879590, 1178886692, 1178886722, 1178886726, 1178886756, 1178887202, 1178887206, 1178887266, 1178887270, 1178887716, 1178887746, 1178887750, 1178887780, 1179001412, 1179001892, 1179001922, 1179001926, 1179001956, 1179002436, 1179009572, 1179009602, 1179009606, 1179009636, 1179010082, 1179010086, 1179010146, 1179010150, 1179010596, 1179010626, 1179010630, 1179010660, 1179017796, 1179018276, 1179018306, 1179018310, 1179018340, 1179018820, 1180836932, 1180844612, 1180845092, 1180845122, 1180845126, 1180845156, 1180845636, 1180853316, 1180967492, 1180967972, 1180968002, 1180968006, 1180968036, 1180968516, 1180975652, 1180975682, 1180975686, 1180975716, 1180976162, 1180976166, 1180976226, 1180976230, 1180976676, 1180976706, 1180976710, 1180976740, 1180983876, 1180984356, 1180984386, 1180984390, 1180984420, 1180984900, 1181099076, 1181106756, 1181107236, 1181107266, 1181107270, 1181107300, 1181107780, 1181115460, 1212433476, 1362309939, 1362309973, 1362310453, 1362310483, 1362318133, 1362318163, 1362318643, 1362318677, 1362441013, 1362441043, 1362441523, 1362441557, 1362449203, 1362449237, 1362449717, 1362449747, 1364407093, 1364407123, 1364407603, 1364407637, 1364415283, 1364415317, 1364415797, 1364415827, 1364538163, 1364538197, 1364538677, 1364538707, 1364546357, 1364546387, 1364546867, 1364546901, 1393767219, 1393767253, 1393767733, 1393767763, 1393775413, 1393775443, 1393775923, 1393775957, 1393898293, 1393898323, 1393898803, 1393898837, 1393906483, 1393906517, 1393906997, 1393907027, 1395733299, 1395733333, 1395733813, 1395733843, 1395741493, 1395741523, 1395742003, 1395742037, 1395856179, 1395856213, 1395856693, 1395856723, 1395863859, 1395863893, 1395864339, 1395864369, 1395864407, 1395864437, 1395864853, 1395864887, 1395864913, 1395864947, 1395865397, 1395865427, 1395872053, 1395872083, 1395872533, 1395872567, 1395872593, 1395872627, 1395873043, 1395873073, 1395873111, 1395873141, 1395873587, 1395873621, 1395880757, 1395880787, 1395881267, 1395881301, 1395987253, 1395987283, 1395987763, 1395987797, 1395994933, 1395994963, 1395995413, 1395995447, 1395995473, 1395995507, 1395995923, 1395995953, 1395995991, 1395996021, 1395996467, 1395996501, 1396003123, 1396003157, 1396003603, 1396003633, 1396003671, 1396003701, 1396004117, 1396004151, 1396004177, 1396004211, 1396004661, 1396004691, 1396011827, 1396011861, 1396012341, 1396012371, 1396126517, 1396126547, 1396127027, 1396127061, 1396134707, 1396134741, 1396135221, 1396135251, 1397830453, 1397830483, 1397830963, 1397830997, 1397838643, 1397838677, 1397839157, 1397839187, 1397953333, 1397953363, 1397953843, 1397953877, 1397961013, 1397961043, 1397961493, 1397961527, 1397961553, 1397961587, 1397962003, 1397962033, 1397962071, 1397962101, 1397962547, 1397962581, 1397969203, 1397969237, 1397969683, 1397969713, 1397969751, 1397969781, 1397970197, 1397970231, 1397970257, 1397970291, 1397970741, 1397970771, 1397977907, 1397977941, 1397978421, 1397978451, 1398084403, 1398084437, 1398084917, 1398084947, 1398092083, 1398092117, 1398092563, 1398092593, 1398092631, 1398092661, 1398093077, 1398093111, 1398093137, 1398093171, 1398093621, 1398093651, 1398100277, 1398100307, 1398100757, 1398100791, 1398100817, 1398100851, 1398101267, 1398101297, 1398101335, 1398101365, 1398101811, 1398101845, 1398108981, 1398109011, 1398109491, 1398109525, 1398223667, 1398223701, 1398224181, 1398224211, 1398231861, 1398231891, 1398232371, 1398232405, 1400058677, 1400058707, 1400059187, 1400059221, 1400066867, 1400066901, 1400067381, 1400067411, 1400189747, 1400189781, 1400190261, 1400190291, 1400197941, 1400197971, 1400198451, 1400198485, 1427321653, 1427321683, 1427322163, 1427322197, 1427329843, 1427329877, 1427330357, 1427330387, 1427452723, 1427452757, 1427453237, 1427453267, 1427460917, 1427460947, 1427461427, 1427461461, 1429287733, 1429287763, 1429288243, 1429288277, 1429295923, 1429295957, 1429296437, 1429296467, 1429410613, 1429410643, 1429411123, 1429411157, 1429418293, 1429418323, 1429418773, 1429418807, 1429418833, 1429418867, 1429419283, 1429419313, 1429419351, 1429419381, 1429419827, 1429419861, 1429426483, 1429426517, 1429426963, 1429426993, 1429427031, 1429427061, 1429427477, 1429427511, 1429427537, 1429427571, 1429428021, 1429428051, 1429435187, 1429435221, 1429435701, 1429435731, 1429541683, 1429541717, 1429542197, 1429542227, 1429549363, 1429549397, 1429549843, 1429549873, 1429549911, 1429549941, 1429550357, 1429550391, 1429550417, 1429550451, 1429550901, 1429550931, 1429557557, 1429557587, 1429558037, 1429558071, 1429558097, 1429558131, 1429558547, 1429558577, 1429558615, 1429558645, 1429559091, 1429559125, 1429566261, 1429566291, 1429566771, 1429566805, 1429680947, 1429680981, 1429681461, 1429681491, 1429689141, 1429689171, 1429689651, 1429689685, 1431384883, 1431384917, 1431385397, 1431385427, 1431393077, 1431393107, 1431393587, 1431393621, 1431507763, 1431507797, 1431508277, 1431508307, 1431515443, 1431515477, 1431515923, 1431515953, 1431515991, 1431516021, 1431516437, 1431516471, 1431516497, 1431516531, 1431516981, 1431517011, 1431523637, 1431523667, 1431524117, 1431524151, 1431524177, 1431524211, 1431524627, 1431524657, 1431524695, 1431524725, 1431525171, 1431525205, 1431532341, 1431532371, 1431532851, 1431532885, 1431638837, 1431638867, 1431639347, 1431639381, 1431646517, 1431646547, 1431646997, 1431647031, 1431647057, 1431647091, 1431647507, 1431647537, 1431647575, 1431647605, 1431648051, 1431648085, 1431654707, 1431654741, 1431655187, 1431655217, 1431655255, 1431655285, 1431655701, 1431655735, 1431655761, 1431655795, 1431656245, 1431656275, 1431663411, 1431663445, 1431663925, 1431663955, 1431778101, 1431778131, 1431778611, 1431778645, 1431786291, 1431786325, 1431786805, 1431786835, 1433613107, 1433613141, 1433613621, 1433613651, 1433621301, 1433621331, 1433621811, 1433621845, 1433744181, 1433744211, 1433744691, 1433744725, 1433752371, 1433752405, 1433752885, 1433752915, 1462973237, 1462973267, 1462973747, 1462973781, 1462981427, 1462981461, 1462981941, 1462981971, 1463104307, 1463104341, 1463104821, 1463104851, 1463112501, 1463112531, 1463113011, 1463113045, 1465070387, 1465070421, 1465070901, 1465070931, 1465078581, 1465078611, 1465079091, 1465079125, 1465201461, 1465201491, 1465201971, 1465202005, 1465209651, 1465209685, 1465210165, 1465210195, 1646412868, 1646535748, 1646543428, 1646543908, 1646543938, 1646543942, 1646543972, 1646544452, 1646552132, 1646675012, 1648501828, 1648509508, 1648509988, 1648510018, 1648510022, 1648510052, 1648510532, 1648518212, 1648632388, 1648632868, 1648632898, 1648632902, 1648632932, 1648633412, 1648640548, 1648640578, 1648640582, 1648640612, 1648641058, 1648641062, 1648641122, 1648641126, 1648641572, 1648641602, 1648641606, 1648641636, 1648648772, 1648649252, 1648649282, 1648649286, 1648649316, 1648649796, 1648763972, 1648771652, 1648772132, 1648772162, 1648772166, 1648772196, 1648772676, 1648780356, 1650607172, 1650730052, 1650737732, 1650738212, 1650738242, 1650738246, 1650738276, 1650738756, 1650746436, 1650869316, 1679959108, 1679966788, 1679967268, 1679967298, 1679967302, 1679967332, 1679967812, 1679975492, 1680089668, 1680090148, 1680090178, 1680090182, 1680090212, 1680090692, 1680097828, 1680097858, 1680097862, 1680097892, 1680098338, 1680098342, 1680098402, 1680098406, 1680098852, 1680098882, 1680098886, 1680098916, 1680106052, 1680106532, 1680106562, 1680106566, 1680106596, 1680107076, 1680221252, 1680228932, 1680229412, 1680229442, 1680229446, 1680229476, 1680229956, 1680237636, 1682055748, 1682056228, 1682056258, 1682056262, 1682056292, 1682056772, 1682063908, 1682063938, 1682063942, 1682063972, 1682064418, 1682064422, 1682064482, 1682064486, 1682064932, 1682064962, 1682064966, 1682064996, 1682072132, 1682072612, 1682072642, 1682072646, 1682072676, 1682073156, 1682186788, 1682186818, 1682186822, 1682186852, 1682187298, 1682187302, 1682187362, 1682187366, 1682187812, 1682187842, 1682187846, 1682187876, 1682194978, 1682194982, 1682195042, 1682195046, 1682196002, 1682196006, 1682196066, 1682196070, 1682203172, 1682203202, 1682203206, 1682203236, 1682203682, 1682203686, 1682203746, 1682203750, 1682204196, 1682204226, 1682204230, 1682204260, 1682317892, 1682318372, 1682318402, 1682318406, 1682318436, 1682318916, 1682326052, 1682326082, 1682326086, 1682326116, 1682326562, 1682326566, 1682326626, 1682326630, 1682327076, 1682327106, 1682327110, 1682327140, 1682334276, 1682334756, 1682334786, 1682334790, 1682334820, 1682335300, 1684153412, 1684161092, 1684161572, 1684161602, 1684161606, 1684161636, 1684162116, 1684169796, 1684283972, 1684284452, 1684284482, 1684284486, 1684284516, 1684284996, 1684292132, 1684292162, 1684292166, 1684292196, 1684292642, 1684292646, 1684292706, 1684292710, 1684293156, 1684293186, 1684293190, 1684293220, 1684300356, 1684300836, 1684300866, 1684300870, 1684300900, 1684301380, 1684415556, 1684423236, 1684423716, 1684423746, 1684423750, 1684423780, 1684424260, 1684431940, 1713521732, 1713644612, 1713652292, 1713652772, 1713652802, 1713652806, 1713652836, 1713653316, 1713660996, 1713783876, 1715610692, 1715618372, 1715618852, 1715618882, 1715618886, 1715618916, 1715619396, 1715627076, 1715741252, 1715741732, 1715741762, 1715741766, 1715741796, 1715742276, 1715749412, 1715749442, 1715749446, 1715749476, 1715749922, 1715749926, 1715749986, 1715749990, 1715750436, 1715750466, 1715750470, 1715750500, 1715757636, 1715758116, 1715758146, 1715758150, 1715758180, 1715758660, 1715872836, 1715880516, 1715880996, 1715881026, 1715881030, 1715881060, 1715881540, 1715889220, 1717716036, 1717838916, 1717846596, 1717847076, 1717847106, 1717847110, 1717847140, 1717847620, 1717855300, 1717978180, 1932735283, 1932735317, 1932735797, 1932735827, 1932743477, 1932743507, 1932743987, 1932744021, 1932866357, 1932866387, 1932866867, 1932866901, 1932874547, 1932874581, 1932875061, 1932875091, 1934832437, 1934832467, 1934832947, 1934832981, 1934840627, 1934840661, 1934841141, 1934841171, 1934963507, 1934963541, 1934964021, 1934964051, 1934971701, 1934971731, 1934972211, 1934972245, 1966289717, 1966289747, 1966290227, 1966290261, 1966297907, 1966297941, 1966298421, 1966298451, 1966420787, 1966420821, 1966421301, 1966421331, 1966428981, 1966429011, 1966429491, 1966429525, 1968386867, 1968386901, 1968387381, 1968387411, 1968395061, 1968395091, 1968395571, 1968395605, 1968517941, 1968517971, 1968518451, 1968518485, 1968526131, 1968526165, 1968526645, 1968526675, 2219066436]
def en (x : List Int) : Nat := x.foldl (fun a b => 16 * a + (b + 4).toNat) 0
def de (n : Nat) : List Int := (List.range 8).map fun k => ((n / 16 ^ (7 - k) % 16 : Nat) : Int) - 4
def FO : List (List Int) := FOn.map de
/-! a sort that the kernel reckons quickly -/
def mg : Nat → List Nat → List Nat → List Nat
  | 0, l, m => l ++ m
  | _ + 1, [], m => m
  | _ + 1, a :: l, [] => a :: l
  | n + 1, a :: l, b :: m => match Nat.ble a b with
    | true => a :: mg n l (b :: m)
    | false => b :: mg n (a :: l) m
theorem mg_perm : ∀ (n : Nat) (l m : List Nat), (mg n l m).Perm (l ++ m)
  | 0, l, m => .refl _
  | _ + 1, [], m => .refl _
  | _ + 1, a :: l, [] => by simp [mg]
  | n + 1, a :: l, b :: m => by
    unfold mg
    split
    · exact (mg_perm n l (b :: m)).cons a
    · exact ((mg_perm n (a :: l) m).cons b).trans List.perm_middle.symm
def prs : List (List Nat) → List (List Nat)
  | a :: b :: r => mg (a.length + b.length) a b :: prs r
  | [a] => [a]
  | [] => []
theorem prs_perm : ∀ ls : List (List Nat), (prs ls).flatten.Perm ls.flatten
  | a :: b :: r => by
    show (mg _ a b ++ (prs r).flatten).Perm (a ++ (b ++ r.flatten))
    rw [← List.append_assoc]
    exact (mg_perm _ a b).append (prs_perm r)
  | [a] => .refl _
  | [] => .refl _
def rnd : Nat → List (List Nat) → List (List Nat)
  | 0, l => l
  | n + 1, l => rnd n (prs l)
theorem rnd_perm : ∀ (n : Nat) (ls : List (List Nat)), (rnd n ls).flatten.Perm ls.flatten
  | 0, _ => .refl _
  | n + 1, ls => (rnd_perm n (prs ls)).trans (prs_perm ls)
def ksort (l : List Nat) : List Nat := (rnd 13 (l.map fun x => [x])).flatten
theorem ksort_perm (l : List Nat) : (ksort l).Perm l := by
  have := rnd_perm 13 (l.map fun x => [x])
  have e : ∀ l : List Nat, (l.map fun x => [x]).flatten = l := fun l => by
    induction l with
    | nil => rfl
    | cons a l ih => rw [List.map_cons, List.flatten_cons, ih]; rfl
  rw [e] at this
  exact this
theorem perm_FO {l : List (List Int)} (h1 : (l.all fun x => de (en x) == x) = true) (h2 : ksort (l.map en) = FOn) : l.Perm FO := by
  have p : (l.map en).Perm FOn := by rw [← h2]; exact (ksort_perm _).symm
  have p2 := p.map de
  rw [List.map_map] at p2
  have e : l.map (de ∘ en) = l := by
    have : l.map (de ∘ en) = l.map id := List.map_congr_left fun x hx => by
      have := List.all_eq_true.mp h1 x hx
      simpa using this
    rw [this, List.map_id]
  rw [e] at p2
  exact p2
theorem Q0_FO : Q0.Perm FO := perm_FO (by decide +kernel) (by decide +kernel)
theorem Q0_lat : (Q0.all fun a => decide (Lat a) && decide (mulS a a = 16)) = true := by decide +kernel
theorem Q0_len : Q0.length = 2160 := by decide +kernel
theorem e4c_e4 : (List.range 8).flatMap e4c = e4L 8 := by decide +kernel
theorem mem_prod : ∀ {cs : List (List Int)} {a : List Int}, a.length = cs.length → (∀ (i : Nat) x c, a[i]? = some x → cs[i]? = some c → x ∈ c) → a ∈ prodL cs
  | [], [], _, _ => by simp [prodL]
  | c :: cs, x :: a, hl, h => by
    rw [prodL_cons]
    exact ⟨x, h 0 x c rfl rfl, a, mem_prod (Nat.succ.inj hl) fun i y d h1 h2 => h (i + 1) y d (by simpa using h1) (by simpa using h2), rfl⟩
theorem sq_odd3 {x : Int} (h : x.natAbs ≤ 3) (ho : x % 2 = 1) : x * x = 1 ∧ x ∈ [(-1 : Int), 1] ∨ x * x = 9 ∧ x ∈ [(-3 : Int), 3] := by
  have : x = -3 ∨ x = -1 ∨ x = 1 ∨ x = 3 := by omega
  rcases this with rfl | rfl | rfl | rfl <;> decide
theorem odd_low : ∀ {v : List Int}, (∀ x ∈ v, x.natAbs ≤ 3 ∧ x % 2 = 1) → (v.length : Int) ≤ mulS v v ∧ (mulS v v < v.length + 8 → ∀ x ∈ v, x ∈ [(-1 : Int), 1])
  | [], _ => ⟨by decide, fun _ x hx => by cases hx⟩
  | x :: v, h => by
    obtain ⟨h1, h2⟩ := odd_low (v := v) fun y hy => h y (List.mem_cons_of_mem _ hy)
    obtain ⟨k1, k2⟩ := h x List.mem_cons_self
    rw [mulS_cons, List.length_cons]
    rcases sq_odd3 k1 k2 with ⟨q, m⟩ | ⟨q, m⟩
    · rw [q]
      refine ⟨by omega, fun hh y hy => ?_⟩
      rcases List.mem_cons.mp hy with rfl | hy
      · exact m
      · exact h2 (by omega) y hy
    · rw [q]
      exact ⟨by omega, fun hh => absurd hh (by omega)⟩
theorem odd_split : ∀ {v : List Int}, (∀ x ∈ v, x.natAbs ≤ 3 ∧ x % 2 = 1) → mulS v v = v.length + 8 → ∃ u x w, v = u ++ x :: w ∧ (∀ y ∈ u, y ∈ [(-1 : Int), 1]) ∧ x ∈ [(-3 : Int), 3] ∧ ∀ y ∈ w, y ∈ [(-1 : Int), 1]
  | [], _, h => by exact absurd h (by decide)
  | x :: v, h, hs => by
    have hv : ∀ y ∈ v, y.natAbs ≤ 3 ∧ y % 2 = 1 := fun y hy => h y (List.mem_cons_of_mem _ hy)
    obtain ⟨k1, k2⟩ := h x List.mem_cons_self
    rw [mulS_cons, List.length_cons] at hs
    rcases sq_odd3 k1 k2 with ⟨q, m⟩ | ⟨q, m⟩
    · obtain ⟨u, z, w, rfl, h1, h2, h3⟩ := odd_split hv (by omega)
      exact ⟨x :: u, z, w, rfl, fun y hy => by
        rcases List.mem_cons.mp hy with rfl | hy
        · exact m
        · exact h1 y hy, h2, h3⟩
    · exact ⟨[], x, v, rfl, fun y hy => by (cases hy), m, (odd_low hv).2 (by omega)⟩
theorem Q0_of {a : List Int} (hl : Lat a) (hs : mulS a a = 16) : a ∈ Q0 := by
  have h8 := hl.1
  have sm : a.sum.fmod 4 = 0 := by rw [fm4]; exact hl.2.2
  unfold Q0
  rw [List.mem_append]
  by_cases h4 : ∃ x ∈ a, 4 ≤ x.natAbs
  · right
    have := e4_of hs h4
    rw [h8, ← e4c_e4] at this
    obtain ⟨k, hk, hm⟩ := List.mem_flatMap.mp this
    exact List.mem_flatMap.mpr ⟨k, hk, List.mem_append_left _ hm⟩
  · have lo : ∀ x ∈ a, x.natAbs ≤ 3 := fun x hx => by
      by_cases q : 4 ≤ x.natAbs
      · exact absurd ⟨x, hx, q⟩ h4
      · omega
    rcases par_of_lat hl with hp | hp
    · left
      have hd : dot a a = 4 := by
        have := hl.dot hl
        omega
      rw [List.mem_filter]
      refine ⟨mem_prod (by rw [h8]; rfl) fun i x c h1 h2 => ?_, by rw [hd, sm]; rfl⟩
      have hx := List.mem_of_getElem? h1
      have e1 := lo x hx
      have e2 := hp x hx
      have hc : c = [-2, 0, 2] := by
        have := List.mem_of_getElem? h2
        exact List.eq_of_mem_replicate this
      rw [hc]
      have : x = -2 ∨ x = 0 ∨ x = 2 := by omega
      rcases this with rfl | rfl | rfl <;> decide
    · right
      obtain ⟨u, x, w, rfl, h1, h2, h3⟩ := odd_split (v := a) (fun x hx => ⟨lo x hx, by have := hp x hx; omega⟩) (by omega)
      have hul : u.length < 8 := by rw [List.length_append, List.length_cons] at h8; omega
      refine List.mem_flatMap.mpr ⟨u.length, List.mem_range.mpr hul, List.mem_append_right _ ?_⟩
      rw [List.mem_filter]
      refine ⟨mem_prod (by rw [h8]; rfl) fun i y c e1 e2 => ?_, by rw [sm]; rfl⟩
      unfold chO at e2
      rw [List.getElem?_map] at e2
      obtain ⟨j, hj, rfl⟩ := Option.map_eq_some_iff.mp e2
      have hji : j = i := by
        obtain ⟨hh, e⟩ := List.getElem?_eq_some_iff.mp hj
        rw [List.getElem_range] at e
        exact e.symm
      subst hji
      by_cases q : j = u.length
      · rw [if_pos q]
        rw [q, List.getElem?_append_right (Nat.le_refl _), Nat.sub_self, List.getElem?_cons_zero] at e1
        cases e1
        exact h2
      · rw [if_neg q]
        by_cases ql : j < u.length
        · rw [List.getElem?_append_left ql] at e1
          exact h1 y (List.mem_of_getElem? e1)
        · rw [List.getElem?_append_right (by omega)] at e1
          obtain ⟨n, hn⟩ : ∃ n, j - u.length = n + 1 := ⟨j - u.length - 1, by omega⟩
          rw [hn, List.getElem?_cons_succ] at e1
          exact h3 y (List.mem_of_getElem? e1)
theorem FO_mem {a : List Int} : a ∈ FO ↔ Lat a ∧ mulS a a = 16 := by
  rw [← Q0_FO.mem_iff]
  refine ⟨fun h => ?_, fun ⟨h1, h2⟩ => Q0_of h1 h2⟩
  have := List.all_eq_true.mp Q0_lat a h
  rw [Bool.and_eq_true, decide_eq_true_eq, decide_eq_true_eq] at this
  exact this
theorem FO_len : FO.length = 2160 := by rw [← Q0_FO.length_eq, Q0_len]
end Pf

set_option Elab.async false
set_option linter.all false
set_option maxRecDepth 100000
set_option maxHeartbeats 4000000
namespace Pf
open PySem PySem.Spec PyProof.Rows L2

def chk {α : Type} (lt : α → α → Bool) : List α → Bool
  | [] => true
  | [_] => true
  | a :: b :: l => lt a b && chk lt (b :: l)
theorem chk_asc {α : Type} {lt : α → α → Bool} (ht : ∀ a b c, lt a b = true → lt b c = true → lt a c = true) : ∀ {l : List α}, chk lt l = true → l.Pairwise fun a b => lt a b = true
  | [], _ => .nil
  | [a], _ => by simp
  | a :: b :: l, h => by
    have h' : (lt a b && chk lt (b :: l)) = true := h
    rw [Bool.and_eq_true] at h'
    have p := chk_asc ht h'.2
    refine List.Pairwise.cons (fun x hx => ?_) p
    rcases List.mem_cons.mp hx with rfl | hx
    · exact h'.1
    · exact ht _ _ _ h'.1 (List.rel_of_pairwise_cons p hx)
theorem FO_asc : FO.Pairwise fun a b => ltR a b = true := chk_asc tot_row.tr (by decide +kernel)

/-! ## classes by twos -/
def bs : List (List Int) := [[1, -1, -1, -1, -1, -1, -1, 1], [2, 2, 0, 0, 0, 0, 0, 0], [-2, 2, 0, 0, 0, 0, 0, 0], [0, -2, 2, 0, 0, 0, 0, 0], [0, 0, -2, 2, 0, 0, 0, 0], [0, 0, 0, -2, 2, 0, 0, 0], [0, 0, 0, 0, -2, 2, 0, 0], [0, 0, 0, 0, 0, -2, 2, 0]]
def kb (x : List Int) : List Int := bs.map fun b => (dot x b).fmod 2
theorem bs_lat : ∀ b ∈ bs, Lat b := by decide
theorem fm2' (x : Int) : x.fmod 2 = x % 2 := Int.fmod_eq_emod_of_nonneg _ (by decide)
theorem fd2' (x : Int) : x.fdiv 2 = x / 2 := Int.fdiv_eq_ediv_of_nonneg _ (by decide)
theorem q4 {a b : Int} (h : (-2 * a + 2 * b) % 8 = 0) : ∃ p, b = a + 4 * p := ⟨(b - a) / 4, by omega⟩
theorem q2 {a p : Int} (h : (2 * a + 2 * (a + 4 * p)) % 8 = 0) : ∃ m, a = 2 * m := ⟨a / 2, by omega⟩
theorem q8 {x i : Int} (h : (x + i) % 8 = 0) : ∃ w, i = 8 * w - x := ⟨(x + i) / 8, by omega⟩
theorem bs_pair {x : List Int} (hx : x.length = 8) : mulS x [1, -1, -1, -1, -1, -1, -1, 1] = x.getD 0 0 - x.getD 1 0 - x.getD 2 0 - x.getD 3 0 - x.getD 4 0 - x.getD 5 0 - x.getD 6 0 + x.getD 7 0 ∧ mulS x [2, 2, 0, 0, 0, 0, 0, 0] = 2 * x.getD 0 0 + 2 * x.getD 1 0 ∧ mulS x [-2, 2, 0, 0, 0, 0, 0, 0] = -2 * x.getD 0 0 + 2 * x.getD 1 0 ∧
    mulS x [0, -2, 2, 0, 0, 0, 0, 0] = -2 * x.getD 1 0 + 2 * x.getD 2 0 ∧ mulS x [0, 0, -2, 2, 0, 0, 0, 0] = -2 * x.getD 2 0 + 2 * x.getD 3 0 ∧ mulS x [0, 0, 0, -2, 2, 0, 0, 0] = -2 * x.getD 3 0 + 2 * x.getD 4 0 ∧ mulS x [0, 0, 0, 0, -2, 2, 0, 0] = -2 * x.getD 4 0 + 2 * x.getD 5 0 ∧ mulS x [0, 0, 0, 0, 0, -2, 2, 0] = -2 * x.getD 5 0 + 2 * x.getD 6 0 := by
  match x, hx with
  | [a, b, c, d, e, f, g, i], _ =>
    simp only [mulS, List.zipWith_cons_cons, List.zipWith_nil_left, List.sum_cons, List.sum_nil, List.getD_cons_zero, List.getD_cons_succ, Int.mul_zero, Int.zero_add, Int.add_zero, Int.mul_one, Int.mul_neg, Int.neg_mul]
    refine ⟨by omega, by omega, by omega, by omega, by omega, by omega, by omega, by omega⟩
theorem tw_of {d : List Int} (hd : Lat d) (h : ∀ b ∈ bs, mulS d b % 8 = 0) : Tw d := by
  obtain ⟨e1, e2, e3, e4, e5, e6, e7, e8⟩ := bs_pair hd.1
  have h1 := h _ (show [1, -1, -1, -1, -1, -1, -1, 1] ∈ bs by decide)
  have h2 := h _ (show [2, 2, 0, 0, 0, 0, 0, 0] ∈ bs by decide)
  have h3 := h _ (show [-2, 2, 0, 0, 0, 0, 0, 0] ∈ bs by decide)
  have h4 := h _ (show [0, -2, 2, 0, 0, 0, 0, 0] ∈ bs by decide)
  have h5 := h _ (show [0, 0, -2, 2, 0, 0, 0, 0] ∈ bs by decide)
  have h6 := h _ (show [0, 0, 0, -2, 2, 0, 0, 0] ∈ bs by decide)
  have h7 := h _ (show [0, 0, 0, 0, -2, 2, 0, 0] ∈ bs by decide)
  have h8 := h _ (show [0, 0, 0, 0, 0, -2, 2, 0] ∈ bs by decide)
  rw [e1] at h1
  rw [e2] at h2
  rw [e3] at h3
  rw [e4] at h4
  rw [e5] at h5
  rw [e6] at h6
  rw [e7] at h7
  rw [e8] at h8
  clear e1 e2 e3 e4 e5 e6 e7 e8 h
  match d, hd.1 with
  | [a, b, c, d, e, f, g, i], _ =>
    simp only [List.getD_cons_zero, List.getD_cons_succ] at h1 h2 h3 h4 h5 h6 h7 h8
    clear hd
    obtain ⟨p, rfl⟩ := q4 h3
    obtain ⟨q, rfl⟩ := q4 h4
    obtain ⟨r, rfl⟩ := q4 h5
    obtain ⟨s, rfl⟩ := q4 h6
    obtain ⟨t, rfl⟩ := q4 h7
    obtain ⟨u, rfl⟩ := q4 h8
    obtain ⟨m, rfl⟩ := q2 h2
    obtain ⟨w, rfl⟩ := q8 h1
    clear h1 h2 h3 h4 h5 h6 h7 h8
    refine ⟨[m, m + 2 * p, m + 2 * p + 2 * q, m + 2 * p + 2 * q + 2 * r, m + 2 * p + 2 * q + 2 * r + 2 * s, m + 2 * p + 2 * q + 2 * r + 2 * s + 2 * t, m + 2 * p + 2 * q + 2 * r + 2 * s + 2 * t + 2 * u, 4 * w + 5 * m + 12 * p + 10 * q + 8 * r + 6 * s + 4 * t + 2 * u], Lat.of8 ⟨?_, ?_, ?_, ?_, ?_, ?_, ?_, ?_⟩, ?_⟩
    · omega
    · omega
    · omega
    · omega
    · omega
    · omega
    · omega
    · omega
    · unfold smul
      simp only [List.map_cons, List.map_nil, List.cons.injEq, and_true, true_and]
      refine ⟨?_, ?_, ?_, ?_, ?_, ?_, ?_⟩ <;> omega
theorem less_mul {x y b : List Int} (hx : Lat x) (hy : Lat y) : mulS (less x y 1) b = mulS x b - mulS y b := by
  rw [mulS_less 1 (by rw [hx.1, hy.1])]; omega
theorem kb_tw {x y : List Int} (hx : Lat x) (hy : Lat y) : kb x = kb y ↔ Tw (less x y 1) := by
  constructor
  · intro h
    refine tw_of (hx.less 1 hy) fun b hb => ?_
    have hB := bs_lat b hb
    have e : (dot x b).fmod 2 = (dot y b).fmod 2 := by
      unfold kb at h
      exact List.map_inj_left.mp h b hb
    rw [fm2', fm2'] at e
    have e1 := hx.dot hB
    have e2 := hy.dot hB
    rw [less_mul hx hy]
    omega
  · rintro ⟨h, hh, e⟩
    unfold kb
    refine List.map_congr_left fun b hb => ?_
    have hB := bs_lat b hb
    have e0 := less_mul (b := b) hx hy
    rw [e, mulS_smul] at e0
    have e1 := hx.dot hB
    have e2 := hy.dot hB
    have e3 := hh.dot hB
    rw [fm2', fm2']
    omega
theorem twb_kb {x y : List Int} (hx : Lat x) (hy : Lat y) : twb (less x y 1) = decide (kb x = kb y) := by
  rw [Bool.eq_iff_iff, tw_iff, decide_eq_true_eq, kb_tw hx hy]
theorem less_z8 {x : List Int} (h : x.length = 8) : less x z8 1 = x := by
  match x, h with
  | [a, b, c, d, e, f, g, i], _ => simp [less, z8]
def all8 : List (List Int) := prodL (List.replicate 8 [0, 1])
theorem kb_in (x : List Int) : kb x ∈ all8 := by
  refine mem_prod (by unfold kb; rw [List.length_map]; rfl) fun i y c h1 h2 => ?_
  have hc : c = [0, 1] := List.eq_of_mem_replicate (List.mem_of_getElem? h2)
  unfold kb at h1
  rw [List.getElem?_map] at h1
  obtain ⟨b, _, rfl⟩ := Option.map_eq_some_iff.mp h1
  rw [hc, fm2']
  have : (dot x b) % 2 = 0 ∨ (dot x b) % 2 = 1 := by omega
  rcases this with e | e <;> rw [e] <;> decide
def cd (s : List Int) : Nat := s.foldl (fun a b => 2 * a + b.toNat) 0
def dc (n : Nat) : List Int := (List.range 8).map fun k => ((n / 2 ^ (7 - k) % 2 : Nat) : Int)
theorem dc_cd : ∀ s ∈ all8, dc (cd s) = s := by decide +kernel
theorem cd_inj {s t : List Int} (hs : s ∈ all8) (ht : t ∈ all8) : cd s = cd t ↔ s = t := ⟨fun h => by rw [← dc_cd s hs, h, dc_cd t ht], fun h => by rw [h]⟩
def FSl : List Nat := [128, 160, 33, 35, 34, 38, 39, 37, 164, 44, 45, 47, 174, 42, 171, 169, 168, 56, 57, 59, 186, 62, 191, 189, 188, 52, 181, 183, 182, 178, 179, 177, 48, 80, 81, 83, 210, 86, 215, 213, 212, 92, 221, 223, 222, 218, 219, 217, 88, 72, 201, 203, 202, 206, 207, 205, 76, 196, 197, 199, 70, 194, 67, 65, 64, 132, 142, 139, 137, 8, 136, 9, 11, 14, 4, 154, 159, 157, 28, 156, 29, 31, 26, 149, 151, 22, 150, 23, 21, 146, 19, 147, 18, 17, 145, 145, 17, 18, 147, 19, 146, 21, 23, 150, 22, 151, 149, 26, 31, 29, 156, 28, 157, 159, 154, 4, 14, 11, 9, 136, 8, 137, 139, 142, 132, 242, 247, 245, 116, 244, 117, 119, 114, 253, 255, 126, 254, 127, 125, 250, 123, 251, 122, 121, 249, 249, 121, 122, 251, 123, 250, 125, 127, 254, 126, 255, 253, 114, 119, 117, 244, 116, 245, 247, 242, 233, 235, 106, 234, 107, 105, 238, 111, 239, 110, 109, 237, 237, 109, 110, 239, 111, 238, 105, 107, 234, 106, 235, 233, 228, 101, 229, 100, 103, 231, 231, 103, 100, 229, 101, 228, 98, 226, 226, 98, 226, 98, 98, 226, 100, 229, 101, 228, 231, 103, 103, 231, 228, 101, 229, 100, 105, 107, 234, 106, 235, 233, 110, 239, 111, 238, 237, 109, 109, 237, 238, 111, 239, 110, 233, 235, 106, 234, 107, 105, 114, 119, 117, 244, 116, 245, 247, 242, 125, 127, 254, 126, 255, 253, 122, 251, 123, 250, 249, 121, 121, 249, 250, 123, 251, 122, 253, 255, 126, 254, 127, 125, 242, 247, 245, 116, 244, 117, 119, 114, 4, 14, 11, 9, 136, 8, 137, 139, 142, 132, 26, 31, 29, 156, 28, 157, 159, 154, 21, 23, 150, 22, 151, 149, 18, 147, 19, 146, 145, 17, 17, 145, 146, 19, 147, 18, 149, 151, 22, 150, 23, 21, 154, 159, 157, 28, 156, 29, 31, 26, 132, 142, 139, 137, 8, 136, 9, 11, 14, 4, 48, 177, 179, 178, 182, 183, 181, 52, 188, 189, 191, 62, 186, 59, 57, 56, 168, 169, 171, 42, 174, 47, 45, 44, 164, 37, 39, 38, 34, 35, 33, 160, 88, 217, 219, 218, 222, 223, 221, 92, 212, 213, 215, 86, 210, 83, 81, 80, 76, 205, 207, 206, 202, 203, 201, 72, 70, 199, 197, 196, 67, 194, 65, 64, 65, 64, 194, 67, 194, 67, 64, 65, 197, 196, 199, 70, 199, 70, 196, 197, 196, 197, 70, 199, 64, 65, 67, 194, 202, 203, 201, 72, 207, 206, 205, 76, 205, 76, 206, 207, 206, 207, 76, 205, 201, 72, 203, 202, 203, 202, 72, 201, 72, 201, 202, 203, 76, 205, 207, 206, 64, 65, 67, 194, 70, 199, 197, 196, 212, 213, 215, 86, 210, 83, 81, 80, 222, 223, 221, 92, 219, 218, 217, 88, 217, 88, 218, 219, 218, 219, 88, 217, 221, 92, 223, 222, 223, 222, 92, 221, 92, 221, 222, 223, 88, 217, 219, 218, 210, 83, 81, 80, 215, 86, 213, 212, 213, 212, 86, 215, 86, 215, 212, 213, 81, 80, 83, 210, 83, 210, 80, 81, 80, 81, 210, 83, 212, 213, 215, 86, 88, 217, 219, 218, 222, 223, 221, 92, 64, 65, 67, 194, 70, 199, 197, 196, 76, 205, 207, 206, 202, 203, 201, 72, 168, 169, 171, 42, 174, 47, 45, 44, 164, 37, 39, 38, 34, 35, 33, 160, 188, 189, 191, 62, 186, 59, 57, 56, 182, 183, 181, 52, 179, 178, 177, 48, 177, 48, 178, 179, 178, 179, 48, 177, 181, 52, 183, 182, 183, 182, 52, 181, 52, 181, 182, 183, 48, 177, 179, 178, 186, 59, 57, 56, 191, 62, 189, 188, 189, 188, 62, 191, 62, 191, 188, 189, 57, 56, 59, 186, 59, 186, 56, 57, 56, 57, 186, 59, 188, 189, 191, 62, 48, 177, 179, 178, 182, 183, 181, 52, 164, 37, 39, 38, 34, 35, 33, 160, 174, 47, 45, 44, 171, 42, 169, 168, 169, 168, 42, 171, 42, 171, 168, 169, 45, 44, 47, 174, 47, 174, 44, 45, 44, 45, 174, 47, 168, 169, 171, 42, 34, 35, 33, 160, 39, 38, 37, 164, 37, 164, 38, 39, 38, 39, 164, 37, 33, 160, 35, 34, 35, 34, 160, 33, 160, 33, 34, 35, 164, 37, 39, 38, 168, 169, 171, 42, 174, 47, 45, 44, 48, 177, 179, 178, 182, 183, 181, 52, 188, 189, 191, 62, 186, 59, 57, 56, 64, 65, 67, 194, 70, 199, 197, 196, 76, 205, 207, 206, 202, 203, 201, 72, 88, 217, 219, 218, 222, 223, 221, 92, 212, 213, 215, 86, 210, 83, 81, 80, 128, 98, 103, 101, 228, 100, 229, 231, 226, 109, 111, 238, 110, 239, 237, 106, 235, 107, 234, 233, 105, 105, 233, 234, 107, 235, 106, 237, 239, 110, 238, 111, 109, 226, 231, 229, 100, 228, 101, 103, 98, 121, 123, 250, 122, 251, 249, 126, 255, 127, 254, 253, 125, 125, 253, 254, 127, 255, 126, 249, 251, 122, 250, 123, 121, 116, 245, 117, 244, 247, 119, 119, 247, 244, 117, 245, 116, 242, 114, 114, 242, 114, 242, 242, 114, 244, 117, 245, 116, 119, 247, 247, 119, 116, 245, 117, 244, 249, 251, 122, 250, 123, 121, 254, 127, 255, 126, 125, 253, 253, 125, 126, 255, 127, 254, 121, 123, 250, 122, 251, 249, 226, 231, 229, 100, 228, 101, 103, 98, 237, 239, 110, 238, 111, 109, 234, 107, 235, 106, 105, 233, 233, 105, 106, 235, 107, 234, 109, 111, 238, 110, 239, 237, 98, 103, 101, 228, 100, 229, 231, 226, 128, 17, 19, 146, 18, 147, 145, 22, 151, 23, 150, 149, 21, 21, 149, 150, 23, 151, 22, 145, 147, 18, 146, 19, 17, 28, 157, 29, 156, 159, 31, 31, 159, 156, 29, 157, 28, 154, 26, 26, 154, 26, 154, 154, 26, 156, 29, 157, 28, 31, 159, 159, 31, 28, 157, 29, 156, 145, 147, 18, 146, 19, 17, 150, 23, 151, 22, 21, 149, 149, 21, 22, 151, 23, 150, 17, 19, 146, 18, 147, 145, 128, 8, 137, 9, 136, 139, 11, 11, 139, 136, 9, 137, 8, 142, 14, 14, 142, 14, 142, 142, 14, 136, 9, 137, 8, 11, 139, 139, 11, 8, 137, 9, 136, 128, 132, 4, 4, 132, 4, 132, 132, 4, 128, 128, 128, 128, 128, 128, 4, 132, 132, 4, 132, 4, 4, 132, 128, 136, 9, 137, 8, 11, 139, 139, 11, 8, 137, 9, 136, 14, 142, 142, 14, 142, 14, 14, 142, 8, 137, 9, 136, 139, 11, 11, 139, 136, 9, 137, 8, 128, 145, 147, 18, 146, 19, 17, 150, 23, 151, 22, 21, 149, 149, 21, 22, 151, 23, 150, 17, 19, 146, 18, 147, 145, 156, 29, 157, 28, 31, 159, 159, 31, 28, 157, 29, 156, 26, 154, 154, 26, 154, 26, 26, 154, 28, 157, 29, 156, 159, 31, 31, 159, 156, 29, 157, 28, 17, 19, 146, 18, 147, 145, 22, 151, 23, 150, 149, 21, 21, 149, 150, 23, 151, 22, 145, 147, 18, 146, 19, 17, 128, 226, 231, 229, 100, 228, 101, 103, 98, 237, 239, 110, 238, 111, 109, 234, 107, 235, 106, 105, 233, 233, 105, 106, 235, 107, 234, 109, 111, 238, 110, 239, 237, 98, 103, 101, 228, 100, 229, 231, 226, 249, 251, 122, 250, 123, 121, 254, 127, 255, 126, 125, 253, 253, 125, 126, 255, 127, 254, 121, 123, 250, 122, 251, 249, 244, 117, 245, 116, 119, 247, 247, 119, 116, 245, 117, 244, 114, 242, 242, 114, 242, 114, 114, 242, 116, 245, 117, 244, 247, 119, 119, 247, 244, 117, 245, 116, 121, 123, 250, 122, 251, 249, 126, 255, 127, 254, 253, 125, 125, 253, 254, 127, 255, 126, 249, 251, 122, 250, 123, 121, 98, 103, 101, 228, 100, 229, 231, 226, 109, 111, 238, 110, 239, 237, 106, 235, 107, 234, 233, 105, 105, 233, 234, 107, 235, 106, 237, 239, 110, 238, 111, 109, 226, 231, 229, 100, 228, 101, 103, 98, 128, 80, 81, 83, 210, 86, 215, 213, 212, 92, 221, 223, 222, 218, 219, 217, 88, 72, 201, 203, 202, 206, 207, 205, 76, 196, 197, 199, 70, 194, 67, 65, 64, 56, 57, 59, 186, 62, 191, 189, 188, 52, 181, 183, 182, 178, 179, 177, 48, 44, 45, 47, 174, 42, 171, 169, 168, 38, 39, 37, 164, 35, 34, 33, 160, 33, 160, 34, 35, 34, 35, 160, 33, 37, 164, 39, 38, 39, 38, 164, 37, 164, 37, 38, 39, 160, 33, 35, 34, 42, 171, 169, 168, 47, 174, 45, 44, 45, 44, 174, 47, 174, 47, 44, 45, 169, 168, 171, 42, 171, 42, 168, 169, 168, 169, 42, 171, 44, 45, 47, 174, 160, 33, 35, 34, 38, 39, 37, 164, 52, 181, 183, 182, 178, 179, 177, 48, 62, 191, 189, 188, 59, 186, 57, 56, 57, 56, 186, 59, 186, 59, 56, 57, 189, 188, 191, 62, 191, 62, 188, 189, 188, 189, 62, 191, 56, 57, 59, 186, 178, 179, 177, 48, 183, 182, 181, 52, 181, 52, 182, 183, 182, 183, 52, 181, 177, 48, 179, 178, 179, 178, 48, 177, 48, 177, 178, 179, 52, 181, 183, 182, 56, 57, 59, 186, 62, 191, 189, 188, 160, 33, 35, 34, 38, 39, 37, 164, 44, 45, 47, 174, 42, 171, 169, 168, 72, 201, 203, 202, 206, 207, 205, 76, 196, 197, 199, 70, 194, 67, 65, 64, 92, 221, 223, 222, 218, 219, 217, 88, 86, 215, 213, 212, 83, 210, 81, 80, 81, 80, 210, 83, 210, 83, 80, 81, 213, 212, 215, 86, 215, 86, 212, 213, 212, 213, 86, 215, 80, 81, 83, 210, 218, 219, 217, 88, 223, 222, 221, 92, 221, 92, 222, 223, 222, 223, 92, 221, 217, 88, 219, 218, 219, 218, 88, 217, 88, 217, 218, 219, 92, 221, 223, 222, 80, 81, 83, 210, 86, 215, 213, 212, 196, 197, 199, 70, 194, 67, 65, 64, 206, 207, 205, 76, 203, 202, 201, 72, 201, 72, 202, 203, 202, 203, 72, 201, 205, 76, 207, 206, 207, 206, 76, 205, 76, 205, 206, 207, 72, 201, 203, 202, 194, 67, 65, 64, 199, 70, 197, 196, 197, 196, 70, 199, 70, 199, 196, 197, 65, 64, 67, 194, 67, 194, 64, 65, 64, 65, 194, 67, 196, 197, 199, 70, 72, 201, 203, 202, 206, 207, 205, 76, 80, 81, 83, 210, 86, 215, 213, 212, 92, 221, 223, 222, 218, 219, 217, 88, 160, 33, 35, 34, 38, 39, 37, 164, 44, 45, 47, 174, 42, 171, 169, 168, 56, 57, 59, 186, 62, 191, 189, 188, 52, 181, 183, 182, 178, 179, 177, 48, 4, 14, 11, 9, 136, 8, 137, 139, 142, 132, 26, 31, 29, 156, 28, 157, 159, 154, 21, 23, 150, 22, 151, 149, 18, 147, 19, 146, 145, 17, 17, 145, 146, 19, 147, 18, 149, 151, 22, 150, 23, 21, 154, 159, 157, 28, 156, 29, 31, 26, 132, 142, 139, 137, 8, 136, 9, 11, 14, 4, 114, 119, 117, 244, 116, 245, 247, 242, 125, 127, 254, 126, 255, 253, 122, 251, 123, 250, 249, 121, 121, 249, 250, 123, 251, 122, 253, 255, 126, 254, 127, 125, 242, 247, 245, 116, 244, 117, 119, 114, 105, 107, 234, 106, 235, 233, 110, 239, 111, 238, 237, 109, 109, 237, 238, 111, 239, 110, 233, 235, 106, 234, 107, 105, 100, 229, 101, 228, 231, 103, 103, 231, 228, 101, 229, 100, 226, 98, 98, 226, 98, 226, 226, 98, 228, 101, 229, 100, 103, 231, 231, 103, 100, 229, 101, 228, 233, 235, 106, 234, 107, 105, 238, 111, 239, 110, 109, 237, 237, 109, 110, 239, 111, 238, 105, 107, 234, 106, 235, 233, 242, 247, 245, 116, 244, 117, 119, 114, 253, 255, 126, 254, 127, 125, 250, 123, 251, 122, 121, 249, 249, 121, 122, 251, 123, 250, 125, 127, 254, 126, 255, 253, 114, 119, 117, 244, 116, 245, 247, 242, 132, 142, 139, 137, 8, 136, 9, 11, 14, 4, 154, 159, 157, 28, 156, 29, 31, 26, 149, 151, 22, 150, 23, 21, 146, 19, 147, 18, 17, 145, 145, 17, 18, 147, 19, 146, 21, 23, 150, 22, 151, 149, 26, 31, 29, 156, 28, 157, 159, 154, 4, 14, 11, 9, 136, 8, 137, 139, 142, 132, 64, 65, 67, 194, 70, 199, 197, 196, 76, 205, 207, 206, 202, 203, 201, 72, 88, 217, 219, 218, 222, 223, 221, 92, 212, 213, 215, 86, 210, 83, 81, 80, 48, 177, 179, 178, 182, 183, 181, 52, 188, 189, 191, 62, 186, 59, 57, 56, 168, 169, 171, 42, 174, 47, 45, 44, 164, 37, 39, 38, 34, 35, 33, 160, 128]
def RSl : List Nat := [16, 120, 108, 102, 99, 97, 224, 96, 225, 227, 230, 236, 248, 144, 192, 193, 195, 66, 198, 71, 69, 68, 204, 77, 79, 78, 74, 75, 73, 200, 216, 89, 91, 90, 94, 95, 93, 220, 84, 85, 87, 214, 82, 211, 209, 208, 176, 49, 51, 50, 54, 55, 53, 180, 60, 61, 63, 190, 58, 187, 185, 184, 40, 41, 43, 170, 46, 175, 173, 172, 36, 165, 167, 166, 162, 163, 161, 32, 232, 252, 246, 243, 241, 112, 240, 113, 115, 118, 124, 104, 148, 158, 155, 153, 24, 152, 25, 27, 30, 20, 138, 143, 141, 12, 140, 13, 15, 10, 133, 135, 6, 134, 7, 5, 130, 3, 131, 2, 1, 129, 129, 1, 2, 131, 3, 130, 5, 7, 134, 6, 135, 133, 10, 15, 13, 140, 12, 141, 143, 138, 20, 30, 27, 25, 152, 24, 153, 155, 158, 148, 104, 124, 118, 115, 113, 240, 112, 241, 243, 246, 252, 232, 32, 161, 163, 162, 166, 167, 165, 36, 172, 173, 175, 46, 170, 43, 41, 40, 184, 185, 187, 58, 190, 63, 61, 60, 180, 53, 55, 54, 50, 51, 49, 176, 208, 209, 211, 82, 214, 87, 85, 84, 220, 93, 95, 94, 90, 91, 89, 216, 200, 73, 75, 74, 78, 79, 77, 204, 68, 69, 71, 198, 66, 195, 193, 192, 144, 248, 236, 230, 227, 225, 96, 224, 97, 99, 102, 108, 120, 16]
def L135 : List Nat := [4, 8, 9, 11, 14, 17, 18, 19, 21, 22, 23, 26, 28, 29, 31, 33, 34, 35, 37, 38, 39, 42, 44, 45, 47, 48, 52, 56, 57, 59, 62, 64, 65, 67, 70, 72, 76, 80, 81, 83, 86, 88, 92, 98, 100, 101, 103, 105, 106, 107, 109, 110, 111, 114, 116, 117, 119, 121, 122, 123, 125, 126, 127, 128, 132, 136, 137, 139, 142, 145, 146, 147, 149, 150, 151, 154, 156, 157, 159, 160, 164, 168, 169, 171, 174, 177, 178, 179, 181, 182, 183, 186, 188, 189, 191, 194, 196, 197, 199, 201, 202, 203, 205, 206, 207, 210, 212, 213, 215, 217, 218, 219, 221, 222, 223, 226, 228, 229, 231, 233, 234, 235, 237, 238, 239, 242, 244, 245, 247, 249, 250, 251, 253, 254, 255]
theorem map_cut {α β : Type} (f : α → β) {l : List α} {m : List β} (n : Nat) (h1 : (l.take n).map f = m.take n) (h2 : (l.drop n).map f = m.drop n) : l.map f = m := by
  rw [← List.take_append_drop n l, List.map_append, h1, h2, List.take_append_drop]
theorem FS1 : ((FOn.take 540).map fun n => cd (kb (de n))) = FSl.take 540 := by decide +kernel
theorem FS2 : (((FOn.drop 540).take 540).map fun n => cd (kb (de n))) = (FSl.drop 540).take 540 := by decide +kernel
theorem FS3 : ((((FOn.drop 540).drop 540).take 540).map fun n => cd (kb (de n))) = ((FSl.drop 540).drop 540).take 540 := by decide +kernel
theorem FS4 : ((((FOn.drop 540).drop 540).drop 540).map fun n => cd (kb (de n))) = ((FSl.drop 540).drop 540).drop 540 := by decide +kernel
theorem FSl_is : (FO.map fun a => cd (kb a)) = FSl := by
  show ((FOn.map de).map fun a => cd (kb a)) = FSl
  rw [List.map_map]
  exact map_cut _ 540 FS1 (map_cut _ 540 FS2 (map_cut _ 540 FS3 FS4))
theorem RSl_is : (RT.map fun a => cd (kb a)) = RSl := by decide +kernel
theorem cnt_rep (x : Nat) : ∀ {l : List Nat}, l.Nodup → (l.flatMap (List.replicate 16)).count x = if x ∈ l then 16 else 0
  | [], _ => rfl
  | a :: l, h => by
    obtain ⟨h1, h2⟩ := List.nodup_cons.mp h
    have ih := cnt_rep x h2
    rw [List.flatMap_cons, List.count_append, ih, List.count_replicate]
    by_cases e : a = x
    · subst e
      rw [if_neg h1]
      simp
    · have : (a == x) = false := by simpa using e
      have e' : ¬ x = a := fun q => e q.symm
      simp [this, e']
theorem FSl_run : ksort FSl = L135.flatMap (List.replicate 16) := by decide +kernel
theorem L135_nd : L135.Nodup := by decide +kernel
theorem FSl_count (x : Nat) : FSl.count x = if x ∈ L135 then 16 else 0 := by
  rw [← (ksort_perm FSl).count_eq, FSl_run, cnt_rep x L135_nd]
theorem FSl_16 (x : Nat) : (FSl.count x == 16) = L135.contains x := by
  rw [FSl_count]
  by_cases h : x ∈ L135
  · rw [if_pos h, List.contains_iff_mem.mpr h]; rfl
  · rw [if_neg h]
    cases hc : L135.contains x with
    | true => exact absurd (List.contains_iff_mem.mp hc) h
    | false => rfl
theorem tab0 : (all8.all fun s => cd s == 0 || RSl.contains (cd s) || L135.contains (cd s)) = true := by decide +kernel
theorem tab : (all8.all fun s => cd s == 0 || RSl.contains (cd s) || (FSl.count (cd s) == 16)) = true := by
  simp only [FSl_16]
  exact tab0
end Pf

set_option Elab.async false
set_option linter.all false
set_option maxRecDepth 100000
set_option maxHeartbeats 4000000
namespace Pf
open PySem PySem.Spec PyProof.Rows L2

def alikeR (R : List Int) : List (List Int) := FO.filter fun a => twb (less R a 1)
section
variable {R : List Int} (hR : Lat R)
include hR
theorem FO_lat {a : List Int} (h : a ∈ FO) : Lat a := (FO_mem.mp h).1
theorem FR_FO : FR R = alikeR R := by
  refine asc_uniq tot_row (FR_asc hR) (FO_asc.filter _) fun a => ?_
  rw [FR_mem hR]
  unfold alikeR
  rw [List.mem_filter, FO_mem, tw_iff]
  exact ⟨fun ⟨⟨h1, h2⟩, h3⟩ => ⟨⟨h1, h3⟩, h2⟩, fun ⟨⟨h1, h3⟩, h2⟩ => ⟨⟨h1, h2⟩, h3⟩⟩
theorem alike_count : (alikeR R).length = FSl.count (cd (kb R)) := by
  unfold alikeR
  rw [← FSl_is, ← List.countP_eq_length_filter]
  unfold List.count
  rw [List.countP_map]
  refine List.countP_congr fun a ha => ?_
  rw [twb_kb hR (FO_mem.mp ha).1]
  show decide (kb R = kb a) = true ↔ (cd (kb a) == cd (kb R)) = true
  rw [decide_eq_true_eq, beq_iff_eq, cd_inj (kb_in a) (kb_in R)]
  exact eq_comm
theorem cls : Tw R ∨ (∃ r ∈ RT, Tw (less R r 1)) ∨ (alikeR R).length = 16 := by
  have h := List.all_eq_true.mp tab (kb R) (kb_in R)
  rw [Bool.or_eq_true, Bool.or_eq_true, beq_iff_eq, beq_iff_eq] at h
  rcases h with (h | h) | h
  · left
    have e : kb R = kb z8 := (cd_inj (kb_in R) (kb_in z8)).mp (h.trans (by decide))
    have := (kb_tw hR z8_lat).mp e
    rwa [less_z8 hR.1] at this
  · right; left
    rw [← RSl_is] at h
    have h' := List.contains_iff_mem.mp h
    obtain ⟨r, hr, e⟩ := List.mem_map.mp h'
    exact ⟨r, hr, (kb_tw hR (RT_lat hr)).mp ((cd_inj (kb_in R) (kb_in r)).mp e.symm)⟩
  · right; right
    rw [alike_count hR]
    exact h
def qq (x : List Int) : Int := ((dot x x).fdiv 2).fmod 2
theorem q_cl {x : List Int} (hx : Lat x) (h : Tw (less R x 1)) : qq R = qq x := by
  obtain ⟨w, hw, e⟩ := h
  have l8 : R.length = x.length := by rw [hR.1, hx.1]
  have a1 : mulS (less R x 1) x = mulS R x - mulS x x := less_mul hR hx
  have a2 : mulS (less R x 1) R = mulS R R - mulS x R := less_mul hR hx
  rw [e, mulS_smul] at a1 a2
  rw [mulS_comm x R] at a2
  have a3 : mulS w R = mulS w x + 2 * mulS w w := by
    have b1 : mulS w (less R x 1) = mulS w R - mulS w x := by rw [mulS_less' 1 l8]; omega
    rw [e, mulS_comm, mulS_smul] at b1
    omega
  have s1 := hw.sq
  have s2 := hw.mul hx
  have s3 := hR.dot hR
  have s4 := hx.dot hx
  have s5 := hx.sq
  unfold qq
  rw [fd2', fd2', fm2', fm2']
  omega
theorem q_pair {r : List Int} (hr : r ∈ RT) (h : Tw (less R r 1)) : qq R = 1 := by
  rw [q_cl hR (RT_lat hr) h]
  have := RT_sq hr
  unfold qq dot
  rw [this]
  rfl
theorem q_tw (h : Tw R) : qq R = 0 := by
  rw [q_cl hR z8_lat (by rw [less_z8 hR.1]; exact h)]
  decide
theorem q_four {a : List Int} (ha : a ∈ alikeR R) : qq R = 0 := by
  unfold alikeR at ha
  rw [List.mem_filter, tw_iff] at ha
  obtain ⟨h1, h2⟩ := FO_mem.mp ha.1
  rw [q_cl hR h1 ha.2]
  unfold qq dot
  rw [h2]
  rfl
theorem alike_dot {a b : List Int} (ha : a ∈ alikeR R) (hb : b ∈ alikeR R) : dot a b = 0 ∨ dot a b = 4 ∨ dot a b = -4 := by
  unfold alikeR at ha hb
  rw [List.mem_filter] at ha hb
  obtain ⟨l1, s1⟩ := FO_mem.mp ha.1
  obtain ⟨l2, s2⟩ := FO_mem.mp hb.1
  have k1 := (kb_tw hR l1).mpr (tw_iff.mp ha.2)
  have k2 := (kb_tw hR l2).mpr (tw_iff.mp hb.2)
  obtain ⟨w, hw, e⟩ := (kb_tw l1 l2).mp (k1.symm.trans k2)
  have l8 : a.length = b.length := by rw [l1.1, l2.1]
  have m1 : mulS (less a b 1) (less a b 1) = mulS a a - 2 * mulS a b + mulS b b := by
    rw [less_mul l1 l2, mulS_less' 1 l8, mulS_less' 1 l8, mulS_comm b a]; omega
  have m2 : mulS (add a b) (add a b) = mulS a a + 2 * mulS a b + mulS b b := by
    rw [mulS_add l8, mulS_comm a, mulS_comm b, mulS_add l8, mulS_add l8, mulS_comm b a]; omega
  have n1 := mulS_nn0 w
  have n2 := mulS_nn0 (add a b)
  have m3 := mulS_two w
  rw [e] at m1
  have s3 := hw.sq
  have s4 := l1.dot l2
  omega
end
/-- dots with the base of any two that are alike are alike -/
theorem alike_kb {R a : List Int} (hR : Lat R) (ha : a ∈ FO) : a ∈ alikeR R ↔ kb a = kb R := by
  unfold alikeR
  rw [List.mem_filter, twb_kb hR (FO_mem.mp ha).1, decide_eq_true_eq]
  exact ⟨fun h => h.2.symm, fun h => ⟨ha, h.symm⟩⟩
end Pf

set_option Elab.async false
set_option linter.all false
set_option maxRecDepth 100000
set_option maxHeartbeats 4000000
namespace Pf
open PySem PySem.Spec PyProof.Rows L2
theorem zipD_ints : ∀ (r s : List Int), zipD (r.map D.int) (s.map D.int) = (r.zip s).map fun p => D.tup [.int p.1, .int p.2]
  | [], _ => rfl
  | _ :: _, [] => rfl
  | a :: r, b :: s => by show D.tup [.int a, .int b] :: zipD (r.map D.int) (s.map D.int) = _; rw [zipD_ints r s]; rfl
theorem zip_rows {ρ : En} {φ φ1 : Fd} {S : SA} {r s : List Int} (h : S ρ φ = .ok [row r, row s] φ1) : iZp S ρ φ = .ok ((r.zip s).map fun p => D.tup [.int p.1, .int p.2]) φ1 := by
  unfold iZp
  rw [bind_ok' h]
  show O.ok (zipD (r.map D.int) (s.map D.int)) φ1 = _
  rw [zipD_ints]
theorem zip_map {α β γ : Type} (f : α → β → γ) : ∀ (r : List α) (s : List β), (r.zip s).map (fun p => f p.1 p.2) = List.zipWith f r s
  | [], _ => rfl
  | _ :: _, [] => rfl
  | a :: r, b :: s => by simp [zip_map f r s]
theorem zip_len {r s : List Int} (h : r.length ≤ 1000) : (r.zip s).length ≤ sizeLine := size_le (by rw [List.length_zip]; omega)
theorem gAdd_l {l k : List D} (h : l.length + k.length ≤ 1000000) : gAdd (.lst l) (.lst k) = some (.lst (l ++ k)) := by
  show (if _ then _ else _) = _
  rw [if_pos (size_le h)]
theorem eo_len : EV.length + OD.length = 240 := by decide +kernel
theorem range8 {r s : List Int} (hr : r.length = 8) (hs : s.length = 8) (f : Int → Int → Int) : (List.range 8).map (fun k => f (r.getD k 0) (s.getD k 0)) = List.zipWith f r s := by
  match r, hr, s, hs with
  | [a, b, c, d, e, g, h, i], _, [a', b', c', d', e', g', h', i'], _ => rfl
theorem getD_get {r : List Int} {k : Nat} (hr : r.length = 8) (hk : k ∈ List.range 8) : r[k]? = some (r.getD k 0) := by
  have hk' : k < r.length := by rw [hr]; exact List.mem_range.mp hk
  rw [List.getD_eq_getElem?_getD, List.getElem?_eq_getElem hk']; rfl
theorem getD_bd {r : List Int} {k : Nat} (h : Rw r) (hk : k ∈ List.range 8) : (r.getD k 0).natAbs ≤ 1000000 := h.2 _ (List.mem_of_getElem? (getD_get h.1 hk))
theorem rg8 {ρ : En} {φ : Fd} : iRg1 (aCons (eInt 8) aNil) ρ φ = .ok ((List.range 8).map fun (k : Nat) => D.int k) φ := rg1_ok (n := 8) rfl (by decide)
def R.env : R → En
  | .nx ρ _ => ρ
  | _ => []
theorem seq_env {P Q : SS} {ρ : En} {φ : Fd} {r : R} (h : P ρ φ = .nx (P ρ φ).env φ) (h2 : Q (P ρ φ).env φ = r) : sSeq P Q ρ φ = r := seq_nx h h2
theorem gIx_last (l : List D) (x : D) : gIx (.lst (l ++ [x])) (.int (-1)) = some x := atI_last l x
section
variable {α : Type} [DecidableEq α] {f : α → D} {lt : α → α → Bool} {n : Nat}
theorem ofold0_len (p : List α) (hp : p.length ≤ 100000) : (p.foldl ostep []).length ≤ 100000 := by
  have := ofold_len p []
  simp at this
  omega
theorem each_loop {T : SB} (l : List α) (φ : Fd) (hl : l.length ≤ 100000) (xs : List α) (hxs : xs.length ≤ 100000)
    (hT : ∀ (acc : List α) (x : α), acc.length ≤ 100000 → T [some (D.lst (l.map f)), some (D.lst (acc.map f)), some (f x)] φ = .ok (!decide (acc.getLast? = some x)) φ) :
    ∃ ρ', forGo (tgN 2) (sSeq (sIf T (sSeq (sMut 1 gApp (eVar 2)) sNil) sNil) sNil) (xs.map f) [some (D.lst (l.map f)), some (.lst []), none] φ = .nx ρ' φ ∧ ∃ y, ρ' = [some (D.lst (l.map f)), some (D.lst ((xs.foldl ostep []).map f)), y] := by
  obtain ⟨ρ', h1, h2⟩ := for_inv (T := tgN 2) (φ := φ) (e := f) (B := (sSeq (sIf T (sSeq (sMut 1 gApp (eVar 2)) sNil) sNil) sNil))
    (fun pre ρ => ∃ y, ρ = [some (D.lst (l.map f)), some (D.lst ((pre.foldl ostep []).map f)), y]) xs [] (ρ := [some (D.lst (l.map f)), some (.lst []), none]) ⟨none, rfl⟩ (by
    rintro pre x post ρ hp ⟨y, rfl⟩
    have hpl : pre.length ≤ 100000 := by
      have := congrArg List.length hp
      rw [List.nil_append, List.length_append] at this
      omega
    have hal := ofold0_len pre hpl
    refine ⟨_, rfl, ?_⟩
    have t := hT (pre.foldl ostep []) x hal
    rw [List.foldl_append]
    show ∃ ρ2, _ ∧ ∃ y, ρ2 = [_, some (D.lst ((ostep (pre.foldl ostep []) x).map f)), y]
    generalize pre.foldl ostep [] = acc at hal t
    by_cases e : acc.getLast? = some x
    · refine ⟨_, .inl (seq_nx (if_skip (t.trans (by simp [e]))) rfl), some (f x), ?_⟩
      unfold ostep
      rw [if_pos e]
      rfl
    · refine ⟨_, .inl (seq_nx (if_yes (t.trans (by simp [e])) (seq_nx (app_ok (l := acc.map f) rfl (v_ok rfl) (size_lt (by rw [List.length_map]; omega))) rfl)) rfl), some (f x), ?_⟩
      unfold ostep
      rw [if_neg e, List.map_append]
      rfl)
  exact ⟨ρ', h1, h2⟩
theorem last_ne (h : Emb f lt n) (hn : n < 64) (l acc : List α) (z x : α) (φ : Fd) : (bCmp gNe (eBin gIx (eVar 1) (eUn gNeg (eInt 1))) (eVar 2)) [some (D.lst (l.map f)), some (D.lst ((acc.concat z).map f)), some (f x)] φ = .ok (!decide (z = x)) φ := by
  refine cmp_ok (bin_ok (v_ok rfl) (un_ok rfl rfl) ?_) (v_ok rfl) (h.gNe (by omega) z x)
  have e0 : (acc.concat z).map f = acc.map f ++ [f z] := by simp
  rw [e0]
  exact gIx_last _ _
end
section
variable {α β : Type} {T T1 : Tg} {I1 : SA} {tst1 : SB} {elt : SX} {vs vs1 : List Nat} {ρ : En} {φ φ1 : Fd}
theorem lc2Go_map (e : α → D) (ys : α → List β) (e1 : β → D) (p : α → β → Bool) (g : α → β → D) : ∀ (xs : List α), (∀ x ∈ xs, ∃ ρ1, T (e x) ρ = some ρ1 ∧ I1 ρ1 φ = .ok ((ys x).map e1) φ ∧ ∀ y ∈ ys x, ∃ ρ2, T1 (e1 y) (wipeE ρ1 vs1) = some ρ2 ∧ tst1 ρ2 φ = .ok (p x y) φ ∧ (p x y = true → elt ρ2 φ = .ok (g x y) φ)) →
    lc2Go T bYes I1 T1 tst1 elt vs1 ρ (xs.map e) φ = .ok (xs.flatMap fun x => ((ys x).filter (p x)).map (g x)) φ
  | [], _ => rfl
  | x :: xs, h => by
    obtain ⟨ρ1, h1, h2, h3⟩ := h x List.mem_cons_self
    have ih := lc2Go_map e ys e1 p g xs fun y hy => h y (List.mem_cons_of_mem _ hy)
    have hin := lcGo_map (T := T1) (tst := tst1) (elt := elt) (ρ := wipeE ρ1 vs1) (φ := φ) e1 (p x) (g x) (ys x) h3
    rw [List.map_cons]
    unfold lc2Go
    rw [h1]
    simp only [bYes, h2, hin, ih, List.flatMap_cons]
theorem lc2_ok {I : SA} (xs : List α) (e : α → D) (ys : α → List β) (e1 : β → D) (p : α → β → Bool) (g : α → β → D) (hI : I ρ φ1 = .ok (xs.map e) φ)
    (hl : (xs.flatMap fun x => ((ys x).filter (p x)).map (g x)).length ≤ sizeLine)
    (h : ∀ x ∈ xs, ∃ ρ1, T (e x) (wipeE ρ vs) = some ρ1 ∧ I1 ρ1 φ = .ok ((ys x).map e1) φ ∧ ∀ y ∈ ys x, ∃ ρ2, T1 (e1 y) (wipeE ρ1 vs1) = some ρ2 ∧ tst1 ρ2 φ = .ok (p x y) φ ∧ (p x y = true → elt ρ2 φ = .ok (g x y) φ)) :
    eLc2 I T bYes I1 T1 tst1 elt vs vs1 ρ φ1 = .ok (.lst (xs.flatMap fun x => ((ys x).filter (p x)).map (g x))) φ := by
  unfold eLc2
  rw [hI]
  show (match lc2Go T bYes I1 T1 tst1 elt vs1 (wipeE ρ vs) (xs.map e) φ with | .ok ys φ2 => if ys.length ≤ sizeLine then O.ok (D.lst ys) φ2 else .bad | _ => .bad) = _
  rw [lc2Go_map e ys e1 p g xs h]
  show (if _ then _ else _) = _
  rw [if_pos hl]
end
theorem in_rows (x : List Int) (l : List (List Int)) : gIn false (row x) (rws l) = some (.bl (decide (x ∈ l))) := by
  have := emb_row.gIn (by decide) false x l
  rw [if_neg (by decide)] at this
  exact this.trans (congrArg (fun b => some (D.bl b)) (decide_eq_decide.mpr Iff.rfl))
theorem notin_rows (x : List Int) (l : List (List Int)) : gIn true (row x) (rws l) = some (.bl (!decide (x ∈ l))) := by
  have := emb_row.gIn (by decide) true x l
  rw [if_pos rfl] at this
  exact this.trans (congrArg (fun b => some (D.bl (!b))) (decide_eq_decide.mpr Iff.rfl))
theorem mulS_nn : ∀ x : List Int, 0 ≤ mulS x x
  | [] => by decide
  | a :: x => by
    rw [mulS_cons]
    have := mulS_nn x
    have := sq_nn a
    omega
theorem dot_bd {g x : List Int} (hg : g ∈ RT) (hx : x ∈ RT) : (dot g x).natAbs ≤ 2 := by
  have hl : g.length = x.length := by rw [RT_l8 hg, RT_l8 hx]
  have h1 := mulS_nn (add g x)
  have h2 := mulS_nn (less g x 1)
  rw [mulS_add hl, mulS_comm g, mulS_comm x (add g x), mulS_add hl, mulS_add hl, RT_sq hg, RT_sq hx, mulS_comm x g] at h1
  rw [mulS_less 1 hl, mulS_less' 1 hl, mulS_less' 1 hl, RT_sq hg, RT_sq hx, mulS_comm x g] at h2
  have := (RT_lat hg).dot (RT_lat hx)
  omega
def pfl (d : D) : Bool := d.flatB && d.shp
def pln : Nat → D → Bool
  | 0, d => pfl d
  | n + 1, d => match d with
    | .lst l => decide (l.length ≤ 1000000) && l.all (pln n)
    | .tup l => decide (l.length ≤ 1000000) && l.all (pln n)
    | d => pfl d
theorem len_ok {ρ : En} {φ : Fd} {A : SX} {l : List D} (h : A ρ φ = .ok (.lst l) φ) : eCB gLen (aCons A aNil) ρ φ = .ok (.int (l.length : Int)) φ := cb1_ok h rfl
theorem all_true {n : Nat} {ρ : En} {φ : Fd} {A : SX} (h : A ρ φ = .ok (.lst ((List.range n).map fun _ => D.bl true)) φ) : eCB gAll (aCons A aNil) ρ φ = .ok (.bl true) φ := by
  refine cb1_ok h ?_
  have e : (List.range n).map (fun _ => D.bl true) = ((List.range n).map fun _ => true).map D.bl := by rw [List.map_map]; rfl
  show (blsOf _).map (fun ns : List Bool => D.bl (ns.all id)) = _
  rw [e, blsOf_map]
  simp
theorem pln_row {r : List Int} (h : r.length ≤ 1000000) : pln 1 (row r) = true := by
  show (decide ((r.map D.int).length ≤ 1000000) && (r.map D.int).all (pln 0)) = true
  rw [List.length_map, decide_eq_true h, Bool.true_and, List.all_map, List.all_eq_true]
  intro x _
  rfl
theorem pln_map {α : Type} {f : α → D} {n : Nat} {l : List α} (hl : l.length ≤ 1000000) (h : ∀ x ∈ l, pln n (f x) = true) : pln (n + 1) (.lst (l.map f)) = true := by
  show (decide ((l.map f).length ≤ 1000000) && (l.map f).all (pln n)) = true
  rw [List.length_map, decide_eq_true hl, Bool.true_and, List.all_map, List.all_eq_true]
  intro x hx
  exact h x hx
theorem pln_up : ∀ (n : Nat) (d : D), pln n d = true → pln (n + 1) d = true
  | 0, d, h => by cases d <;> first | exact h | exact absurd h (by simp [pln, pfl, D.flatB])
  | n + 1, d, h => by
    cases d with
    | lst l =>
      have h' : (decide (l.length ≤ 1000000) && l.all (pln n)) = true := h
      rw [Bool.and_eq_true, List.all_eq_true] at h'
      show (decide (l.length ≤ 1000000) && l.all (pln (n + 1))) = true
      rw [Bool.and_eq_true, List.all_eq_true]
      exact ⟨h'.1, fun x hx => pln_up n x (h'.2 x hx)⟩
    | tup l =>
      have h' : (decide (l.length ≤ 1000000) && l.all (pln n)) = true := h
      rw [Bool.and_eq_true, List.all_eq_true] at h'
      show (decide (l.length ≤ 1000000) && l.all (pln (n + 1))) = true
      rw [Bool.and_eq_true, List.all_eq_true]
      exact ⟨h'.1, fun x hx => pln_up n x (h'.2 x hx)⟩
    | _ => exact h
theorem pln_le {n m : Nat} {d : D} (h : pln n d = true) (hm : n ≤ m) : pln m d = true := by
  induction hm with
  | refl => exact h
  | step _ ih => exact pln_up _ _ ih
theorem draw_ix {α : Type} (f : α → D) (l : List α) (φ : Fd) {n : Nat} (m : Int) (hm : m = (n : Int)) (hl : l.length = n) (hn : 0 < n) : ∃ x ∈ l, gIx (.lst (l.map f)) (.int (φ.draw m).1) = some (f x) := by
  subst hm
  obtain ⟨h0, h1⟩ := φ.draw_range (m := (n : Int)) (by omega)
  obtain ⟨k, hk⟩ : ∃ k : Nat, (φ.draw (n : Int)).1 = (k : Int) := ⟨_, (Int.toNat_of_nonneg h0).symm⟩
  rw [hk] at h1 ⊢
  have hkl : k < l.length := by omega
  refine ⟨l[k], List.getElem_mem hkl, gIx_lst ?_⟩
  rw [List.getElem?_map, List.getElem?_eq_getElem hkl]
  rfl
theorem ne_false {α : Type} [DecidableEq α] {f : α → D} {lt : α → α → Bool} {n : Nat} (h : Emb f lt n) (hn : n ≤ 64) (x : α) : gNe (f x) (f x) = some (.bl false) := (h.gNe hn x x).trans (by simp)
theorem ne_len {a b : Nat} (h : a = b) : gNe (.int (a : Int)) (.int (b : Int)) = some (.bl false) := by rw [h]; exact ne_false emb_int (by decide) _
theorem sum_lens (k : Nat) (l : List D) (h : l.length = k) : gLen [.lst l] = some (.int (k : Int)) := by rw [← h]; rfl
end Pf

set_option Elab.async false
set_option linter.all false
set_option maxRecDepth 100000
set_option maxHeartbeats 4000000
namespace Pf
open PySem PySem.Spec PyProof.Rows L2

/-! ## loops and lists that draw -/
theorem draw_at {ρ : En} {φ : Fd} {A : SX} {n : Int} (i : Nat) (h : ρ[i]? = some (some .feed)) (hn : A ρ φ = .ok (.int n) φ) (h0 : 0 < n) (h1 : n < 1073741824) (ht : 0 ≤ φ.told) : eCall drawF (aCons (eVar i) (aCons A aNil)) ρ φ = .ok (.int (φ.draw n).1) (φ.draw n).2 := by
  refine call_ok (two_ok (v_ok h) hn) ?_
  show (if (0 < n ∧ n < 1073741824) ∧ 0 ≤ φ.told then O.ok (D.int (φ.draw n).1) (φ.draw n).2 else .bad) = _
  rw [if_pos ⟨⟨h0, h1⟩, ht⟩]
theorem Fd.step_told {φ : Fd} (h : 0 ≤ φ.told) : 0 ≤ φ.step.told := by
  unfold Fd.step
  split
  · dsimp only
    split
    · show (0 : Int) ≤ ((φ.cells.getD φ.pos.toNat 0).natAbs : Nat); omega
    · exact h
  · exact h
theorem Fd.draw_told {φ : Fd} (h : 0 ≤ φ.told) (n : Int) (hn : 0 ≤ n := by decide) : 0 ≤ (φ.draw n).2.told := by
  have h2 := Fd.step_told h
  unfold Fd.draw
  dsimp only
  split
  · rename_i hh
    exact Int.ediv_nonneg h2 hn
  · exact h2
section
variable {α β : Type} {T : Tg} {tst : SB} {elt : SX}
theorem for_st {B : SS} {e : α → D} (P : List α → En → Fd → Prop) : ∀ (xs pre : List α) {ρ : En} {φ : Fd}, P pre ρ φ → (∀ (pre' : List α) (x : α) (post : List α) (ρ : En) (φ : Fd), pre ++ xs = pre' ++ x :: post → P pre' ρ φ → ∃ ρ1, T (e x) ρ = some ρ1 ∧ ∃ ρ2 φ2, (B ρ1 φ = .nx ρ2 φ2 ∨ B ρ1 φ = .ct ρ2 φ2) ∧ P (pre' ++ [x]) ρ2 φ2) →
    ∃ ρ' φ', forGo T B (xs.map e) ρ φ = .nx ρ' φ' ∧ P (pre ++ xs) ρ' φ'
  | [], pre, ρ, φ, h0, _ => ⟨ρ, φ, rfl, by simpa using h0⟩
  | x :: xs, pre, ρ, φ, h0, hs => by
    obtain ⟨ρ1, h1, ρ2, φ2, h2, h3⟩ := hs pre x xs ρ φ rfl h0
    obtain ⟨ρ', φ', h4, h5⟩ := for_st (B := B) (e := e) P xs (pre ++ [x]) h3 fun pre' y post ρ φ e' hp => hs pre' y post ρ φ (by rw [← e']; simp) hp
    refine ⟨ρ', φ', ?_, by simpa using h5⟩
    rw [List.map_cons]
    unfold forGo
    rw [h1]
    rcases h2 with h2 | h2 <;> simp only [h2] <;> exact h4
theorem lcGo_st (e : α → D) (g : β → D) (R : α → β → Prop) {ρ : En} : ∀ (xs : List α) (φ : Fd), (∀ x ∈ xs, ∀ φ, ∃ ρ1 b φ1, T (e x) ρ = some ρ1 ∧ tst ρ1 φ = .ok b φ1 ∧ (b = true → ∃ z φ2, R x z ∧ elt ρ1 φ1 = .ok (g z) φ2)) →
    ∃ (zs : List β) (φ' : Fd), lcGo T tst elt ρ (xs.map e) φ = .ok (zs.map g) φ' ∧ (∀ z ∈ zs, ∃ x ∈ xs, R x z) ∧ zs.length ≤ xs.length
  | [], φ, _ => ⟨[], φ, rfl, fun z hz => (by cases hz), Nat.le_refl _⟩
  | x :: xs, φ, h => by
    obtain ⟨ρ1, b, φ1, h1, h2, h3⟩ := h x List.mem_cons_self φ
    have hxs : ∀ y ∈ xs, ∀ φ, ∃ ρ1 b φ1, T (e y) ρ = some ρ1 ∧ tst ρ1 φ = .ok b φ1 ∧ (b = true → ∃ z φ2, R y z ∧ elt ρ1 φ1 = .ok (g z) φ2) := fun y hy => h y (List.mem_cons_of_mem _ hy)
    cases b with
    | false =>
      obtain ⟨zs, φ', e1, e2, e3⟩ := lcGo_st e g R xs φ1 hxs
      refine ⟨zs, φ', ?_, fun z hz => ?_, by rw [List.length_cons]; omega⟩
      · rw [List.map_cons]; unfold lcGo; rw [h1]; simp only [h2]; exact e1
      · obtain ⟨y, hy, hr⟩ := e2 z hz
        exact ⟨y, List.mem_cons_of_mem _ hy, hr⟩
    | true =>
      obtain ⟨z, φ2, hr, h4⟩ := h3 rfl
      obtain ⟨zs, φ', e1, e2, e3⟩ := lcGo_st e g R xs φ2 hxs
      refine ⟨z :: zs, φ', ?_, fun u hu => ?_, by rw [List.length_cons, List.length_cons]; omega⟩
      · rw [List.map_cons]; unfold lcGo; rw [h1]; simp only [h2, h4, e1]; rfl
      · rcases List.mem_cons.mp hu with rfl | hu
        · exact ⟨x, List.mem_cons_self, hr⟩
        · obtain ⟨y, hy, hr⟩ := e2 u hu
          exact ⟨y, List.mem_cons_of_mem _ hy, hr⟩
theorem lc_st {I : SA} {vs : List Nat} {ρ : En} {φ φ1 : Fd} (xs : List α) (e : α → D) (g : β → D) (R : α → β → Prop) (hI : I ρ φ1 = .ok (xs.map e) φ) (hl : xs.length ≤ sizeLine)
    (h : ∀ x ∈ xs, ∀ φ, ∃ ρ1 b φ1, T (e x) (wipeE ρ vs) = some ρ1 ∧ tst ρ1 φ = .ok b φ1 ∧ (b = true → ∃ z φ2, R x z ∧ elt ρ1 φ1 = .ok (g z) φ2)) :
    ∃ (zs : List β) (φ' : Fd), eLc I T tst elt vs ρ φ1 = .ok (.lst (zs.map g)) φ' ∧ (∀ z ∈ zs, ∃ x ∈ xs, R x z) ∧ zs.length ≤ xs.length := by
  obtain ⟨zs, φ', e1, e2, e3⟩ := lcGo_st e g R (ρ := wipeE ρ vs) xs φ h
  refine ⟨zs, φ', ?_, e2, e3⟩
  unfold eLc
  rw [hI]
  show (match lcGo T tst elt (wipeE ρ vs) (xs.map e) φ with | .ok ys φ2 => if ys.length ≤ sizeLine then O.ok (D.lst ys) φ2 else .bad | _ => .bad) = _
  rw [e1]
  show (if _ then _ else _) = _
  rw [if_pos (by rw [List.length_map]; omega)]
end
/-! ## the greater of two -/
section
variable {α : Type} [DecidableEq α] {f : α → D} {lt : α → α → Bool} {n : Nat}
theorem Emb.okLt (h : Emb f lt n) (hn : n ≤ 64) (x y : α) : okLt (f x) (f y) = true := by
  unfold Pf.okLt
  rw [h.al, h.shp hn, h.shp hn]
  have : (f x).isNon = false := by
    have := h.nn x
    cases e : f x with
    | non => exact absurd e this
    | _ => rfl
  rw [this]
  rfl
theorem Emb.gMax2D (h : Emb f lt n) (hn : n ≤ 64) (x y : α) : gMax2D [f x, f y] = some (f (if lt x y then y else x)) := by
  show (if _ then _ else _) = _
  rw [h.okLt hn, h.okLt hn, h.shp hn, h.shp hn, h.lt]
  unfold alk2
  rw [h.al, h.al, h.al, h.al]
  cases lt x y <;> rfl
end
/-- the greater of a root and its contrary -/
def gr (x : List Int) : List Int := if ltR x (neg x) then neg x else x
theorem gr_or (x : List Int) : gr x = x ∨ gr x = neg x := by
  unfold gr
  split
  · exact .inr rfl
  · exact .inl rfl
theorem gr_RT {x : List Int} (h : x ∈ RT) : gr x ∈ RT := by
  rcases gr_or x with e | e <;> rw [e]
  · exact h
  · exact neg_RT h
theorem gr_mul {x y : List Int} : mulS (gr x) y = 0 ↔ mulS x y = 0 := by
  rcases gr_or x with e | e <;> rw [e]
  rw [mulS_neg]
  omega
theorem neg_ne {x : List Int} (h : x ∈ RT) : neg x ≠ x := fun e => by
  have := mulS_neg x x
  rw [e, RT_sq h] at this
  cases this
theorem gr_gr {x : List Int} (h : x ∈ RT) : gr (gr x) = gr x := by
  unfold gr
  by_cases e : ltR x (neg x) = true
  · rw [if_pos e, neg_neg, if_neg (by rw [tot_row.asym e]; decide)]
  · rw [if_neg e, if_neg e]
theorem gr_neg {x : List Int} (h : x ∈ RT) : gr (neg x) = gr x := by
  unfold gr
  rw [neg_neg]
  by_cases e : ltR x (neg x) = true
  · rw [if_pos e, if_neg (by rw [tot_row.asym e]; decide)]
  · rw [if_neg e]
    by_cases e2 : ltR (neg x) x = true
    · rw [if_pos e2]
    · exact absurd (tot_row.tri _ _ (by simpa using e) (by simpa using e2)).symm (neg_ne h)
theorem gr_one {x : List Int} (h : x ∈ RT) : (gr x = x ∧ gr (neg x) ≠ neg x) ∨ (gr x ≠ x ∧ gr (neg x) = neg x) := by
  rw [gr_neg h]
  rcases gr_or x with e | e
  · exact .inl ⟨e, by rw [e]; exact (neg_ne h).symm⟩
  · exact .inr ⟨by rw [e]; exact neg_ne h, e⟩
theorem neg_perm : (RT.map neg).Perm RT := by
  refine (List.perm_ext_iff_of_nodup (map_nodup RT_nodup fun a ha b hb e => ?_) RT_nodup).mpr fun x => ⟨fun h => ?_, fun h => ?_⟩
  · rw [← neg_neg a, e, neg_neg]
  · obtain ⟨y, hy, rfl⟩ := List.mem_map.mp h
    exact neg_RT hy
  · exact List.mem_map.mpr ⟨neg x, neg_RT h, neg_neg x⟩
/-- half of what contraries share are greater -/
theorem count_gr {P : List Int → Bool} (h : ∀ x ∈ RT, P (neg x) = P x) : 2 * RT.countP (fun x => decide (gr x = x) && P x) = RT.countP P := by
  have e1 : RT.countP (fun x => decide (gr x = x) && P x) = RT.countP fun x => !decide (gr x = x) && P x := by
    rw [← neg_perm.countP_eq, List.countP_map]
    refine List.countP_congr fun x hx => ?_
    show (decide (gr (neg x) = neg x) && P (neg x)) = true ↔ _
    rw [h x hx]
    rcases gr_one hx with ⟨q1, q2⟩ | ⟨q1, q2⟩ <;> simp [q1, q2]
  have e2 : ∀ l : List (List Int), l.countP P = l.countP (fun x => decide (gr x = x) && P x) + l.countP fun x => !decide (gr x = x) && P x := by
    intro l
    induction l with
    | nil => rfl
    | cons x l ih =>
      rw [List.countP_cons, List.countP_cons, List.countP_cons, ih]
      by_cases q : gr x = x <;> cases P x <;> simp [q] <;> omega
  rw [e2 RT]
  omega
end Pf

set_option Elab.async false
set_option linter.all false
set_option maxRecDepth 100000
set_option maxHeartbeats 4000000
namespace Pf
open PySem PySem.Spec PyProof.Rows L2
theorem f_product {r s : List Int} (φ : Fd) (hr : ∀ x ∈ r, x.natAbs ≤ 1000000) (hl : r.length ≤ 1000) : F_row_product [row r, row s] φ = .ok (.int (dot r s)) φ := by
  refine run_ret (bin_ok (cb1_ok (lcm_ok (r.zip s) _ (fun p => D.int (p.1 * p.2)) (zip_rows (two_ok (v_ok rfl) (v_ok rfl))) (zip_len hl) fun p hp => ⟨_, rfl, bin_ok (v_ok rfl) (v_ok rfl) (gMul_ok' ?_)⟩) ?_) rfl (gDiv_ok (by decide) (by decide)))
  · have := hr p.1 (List.of_mem_zip hp).1
    omega
  · have : (r.zip s).map (fun p => D.int (p.1 * p.2)) = (List.zipWith (fun a b => a * b) r s).map D.int := by
      rw [← zip_map, List.map_map]; rfl
    rw [this]
    exact gSum_ints _
theorem f_even (φ : Fd) : F_even_roots [] φ = .ok (rws EV) φ := by kernel_rfl
theorem f_odd (φ : Fd) : F_odd_roots [] φ = .ok (rws OD) φ := by kernel_rfl
theorem f_roots (φ : Fd) : F_all_roots [] φ = .ok (rws RT) φ := by
  refine run_ret (cb1_ok (bin_ok (call0_ok (f_even φ)) (call0_ok (f_odd φ)) (gAdd_l (by rw [List.length_map, List.length_map, eo_len]; decide))) ?_)
  have : (EV.map row ++ OD.map row) = (EV ++ OD).map row := (List.map_append ..).symm
  rw [this, emb_row.gSorted (by decide), RT_eo_sort]
  rfl
theorem f_ltimes {r s : List Int} (φ : Fd) (hr : Rw r) (hs : Rw s) : F__law_times [row r, row s] φ = .ok (.int (dot r s)) φ := by
  refine run_ret (bin_ok (cb1_ok (lcm_ok (List.range 8) _ (fun k => D.int (r.getD k 0 * s.getD k 0)) rg8 (by decide) fun k hk => ⟨_, rfl, bin_ok (bin_ok (v_ok rfl) (v_ok rfl) (gIx_row (getD_get hr.1 hk))) (bin_ok (v_ok rfl) (v_ok rfl) (gIx_row (getD_get hs.1 hk))) (gMul_ok' ?_)⟩) ?_) rfl (gDiv_ok (by decide) (by decide)))
  · have := getD_bd hr hk
    omega
  · have : (List.range 8).map (fun k => D.int (r.getD k 0 * s.getD k 0)) = (List.zipWith (fun a b => a * b) r s).map D.int := by
      rw [← range8 hr.1 hs.1, List.map_map]; rfl
    rw [this]
    exact gSum_ints _
theorem f_lless {r s : List Int} {m : Int} (φ : Fd) (hr : Rw r) (hs : Rw s) (hm : m.natAbs ≤ 1000000) : F__law_less [row r, row s, .int m] φ = .ok (row (less r s m)) φ := by
  refine run_ret ?_
  rw [lcm_ok (List.range 8) _ (fun k => D.int (r.getD k 0 - m * s.getD k 0)) rg8 (by decide) fun k hk => ⟨_, rfl, bin_ok (bin_ok (v_ok rfl) (v_ok rfl) (gIx_row (getD_get hr.1 hk))) (bin_ok (v_ok rfl) (bin_ok (v_ok rfl) (v_ok rfl) (gIx_row (getD_get hs.1 hk))) (gMul_ok' (by omega))) rfl⟩]
  unfold row less
  rw [← range8 hr.1 hs.1, List.map_map]; rfl
theorem f_lroots (φ : Fd) : F__law_roots [] φ = .ok (rws RT) φ := by
  refine run_rt (seq_nx (set_ok rfl) (seq_env (by kernel_rfl) (seq_env (by kernel_rfl) (seq_rt (ret_ok (cb1_ok (v_ok (d := rws LR) (by kernel_rfl)) ?_))))))
  unfold rws
  rw [emb_row.gSorted (by decide), RT_lr_sort]
section
variable {α : Type} [DecidableEq α] {f : α → D} {lt : α → α → Bool} {n : Nat}
theorem f_leach (h : Emb f lt n) (hn : n < 64) (l : List α) (φ : Fd) (hl : l.length ≤ 100000) : F__law_each [.lst (l.map f)] φ = .ok (.lst ((once lt l).map f)) φ := by
  obtain ⟨ρ', h1, y, hy⟩ := each_loop (f := f) (T := bOr (bCmp gEq (eCB gLen (aCons (eVar 1) aNil)) (eInt 0)) (bCmp gNe (eBin gIx (eVar 1) (eUn gNeg (eInt 1))) (eVar 2))) l φ hl (l.mergeSort (leL lt)) (by rw [(List.mergeSort_perm l _).length_eq]; exact hl) fun acc x ha => by
    rcases List.eq_nil_or_concat acc with rfl | ⟨a, z, rfl⟩
    · exact or_yes (cmp_ok (b := true) (cb1_ok (v_ok rfl) rfl) rfl (emb_int.gEq (by decide) _ _))
    · refine (or_no (cmp_ok (b := false) (cb1_ok (v_ok rfl) rfl) rfl ((emb_int.gEq (by decide) _ _).trans ?_)) (last_ne h hn l a z x φ)).trans (by simp)
      simp
      omega
  subst hy
  exact run_rt (seq_nx (set_ok (lst_ok nil_ok (by decide))) (seq_nx (for_ok (seq_l (cb1_ok (v_ok rfl) (h.gSorted (by omega) l))) h1) (seq_rt (ret_ok (v_ok rfl)))))
end
theorem same_flat {d : D} {R : Fn} (φ : Fd) (h : pfl d = true) : runB (B__law_same R) 2 3 [d, d] φ = .ok (.bl true) φ := by
  cases d with
  | non => kernel_rfl
  | bl b => cases b <;> kernel_rfl
  | int i =>
    refine run_rt (seq_nx (if_skip (or_no (trub_ok (un_ok (v_ok rfl) rfl)) (trub_ok (un_ok (v_ok rfl) rfl)))) (seq_nx (if_skip (or_no (cmp_ok (v_ok rfl) rfl rfl) (trub_ok (un_ok (v_ok rfl) rfl)))) (seq_nx (if_skip (trub_ok (un_ok (v_ok rfl) rfl))) (seq_rt (ret_ok (eand_yes (un_ok (v_ok rfl) rfl) (eand_yes (enot_ok (b := false) (un_ok (v_ok rfl) rfl)) (bin_ok (v_ok rfl) (v_ok rfl) ((emb_int.gEq (by decide) i i).trans ?_)))))))))
    simp
  | str x =>
    refine run_rt (seq_nx (if_skip (or_no (trub_ok (un_ok (v_ok rfl) rfl)) (trub_ok (un_ok (v_ok rfl) rfl)))) (seq_nx (if_skip (or_no (cmp_ok (v_ok rfl) rfl rfl) (trub_ok (un_ok (v_ok rfl) rfl)))) (seq_rt (if_yes (trub_ok (un_ok (v_ok rfl) rfl)) (seq_rt (ret_ok (eand_yes (un_ok (v_ok rfl) rfl) (bin_ok (v_ok rfl) (v_ok rfl) ?_))))))))
    show (if (D.str x).shp && (D.str x).shp then some (D.bl (PyData.eqv (.str x) (.str x))) else none) = _
    have : (D.str x).shp = true := (Bool.and_eq_true_iff.mp h).2
    rw [this]
    simp [PyData.eqv]
  | _ => cases h
theorem f_same (φ : Fd) : ∀ (n : Nat) (d : D), pln n d = true → F__law_same (n + 1) [d, d] φ = .ok (.bl true) φ
  | 0, d, h => same_flat φ h
  | n + 1, d, h => by
    have ih := f_same φ n
    show runB (B__law_same (F__law_same (n + 1))) 2 3 [d, d] φ = _
    have inner : ∀ (l : List D), (∀ (X : D) (k : Nat), X = .lst l ∨ X = .tup l → gIx X (.int (k : Int)) = atI l k) → decide (l.length ≤ 1000000) = true → l.all (pln n) = true → ∀ X, X = D.lst l ∨ X = .tup l →
        (eLc (iRg1 (aCons (eCB gLen (aCons (eVar 1) aNil)) aNil)) (tgN 2) bYes (eCall (F__law_same (n + 1)) (aCons (eBin gIx (eVar 0) (eVar 2)) (aCons (eBin gIx (eVar 1) (eVar 2)) aNil))) [2]) [some X, some X, none] φ = .ok (.lst ((List.range l.length).map fun _ => D.bl true)) φ := by
      intro l hix hl hall X hX
      have hl' := of_decide_eq_true hl
      have elen : eCB gLen (aCons (eVar 1) aNil) [some X, some X, none] φ = .ok (.int (l.length : Int)) φ := by
        rcases hX with rfl | rfl <;> exact cb1_ok (v_ok rfl) rfl
      refine lcm_ok (List.range l.length) (fun k => D.int (k : Int)) (fun _ => D.bl true) (rg1_ok (n := l.length) (one_ok elen) (by omega)) (by rw [List.length_range]; exact size_le hl') fun k hk => ⟨_, rfl, ?_⟩
      have hk' := List.mem_range.mp hk
      have hx : l[k]? = some l[k] := List.getElem?_eq_getElem hk'
      have e1 : gIx X (.int (k : Int)) = some l[k] := by rw [hix X k hX]; exact atI_nat hx
      exact call_ok (two_ok (bin_ok (v_ok rfl) (v_ok rfl) e1) (bin_ok (v_ok rfl) (v_ok rfl) e1)) (ih _ (List.all_eq_true.mp hall _ (List.getElem_mem hk')))
    cases d with
    | lst l =>
      have h' : (decide (l.length ≤ 1000000) && l.all (pln n)) = true := h
      rw [Bool.and_eq_true] at h'
      refine run_rt (seq_rt (if_yes (or_yes (trub_ok (un_ok (v_ok rfl) rfl))) (seq_nx (if_skip (or_no (cmp_ok (b := false) (un_ok (v_ok rfl) rfl) (un_ok (v_ok rfl) rfl) rfl) (cmp_ok (b := false) (un_ok (v_ok rfl) rfl) (un_ok (v_ok rfl) rfl) rfl))) (seq_rt (ret_ok (eand_yes (bin_ok (cb1_ok (v_ok rfl) rfl) (cb1_ok (v_ok rfl) rfl) ((emb_int.gEq (by decide) _ _).trans ?_)) (all_true (inner l ?_ h'.1 h'.2 (.lst l) (.inl rfl)))))))))
      · simp
      · rintro X k (rfl | rfl) <;> rfl
    | tup l =>
      have h' : (decide (l.length ≤ 1000000) && l.all (pln n)) = true := h
      rw [Bool.and_eq_true] at h'
      refine run_rt (seq_rt (if_yes (or_no (trub_ok (un_ok (v_ok rfl) rfl)) (trub_ok (un_ok (v_ok rfl) rfl))) (seq_nx (if_skip (or_no (cmp_ok (b := false) (un_ok (v_ok rfl) rfl) (un_ok (v_ok rfl) rfl) rfl) (cmp_ok (b := false) (un_ok (v_ok rfl) rfl) (un_ok (v_ok rfl) rfl) rfl))) (seq_rt (ret_ok (eand_yes (bin_ok (cb1_ok (v_ok rfl) rfl) (cb1_ok (v_ok rfl) rfl) ((emb_int.gEq (by decide) _ _).trans ?_)) (all_true (inner l ?_ h'.1 h'.2 (.tup l) (.inr rfl)))))))))
      · simp
      · rintro X k (rfl | rfl) <;> rfl
    | non => exact same_flat φ h
    | bl b => exact same_flat φ h
    | int i => exact same_flat φ h
    | str x => exact same_flat φ h
    | dk _ => cases h
    | dt _ => cases h
    | feed => cases h
    | exn _ _ => cases h
theorem same8 {d : D} {n : Nat} (φ : Fd) (h : pln n d = true) (hn : n ≤ 7 := by decide) : F__law_same 8 [d, d] φ = .ok (.bl true) φ := f_same φ 7 d (pln_le h hn)
theorem draw_ok {ρ : En} {φ : Fd} {A : SX} {n : Int} (h : ρ[1]? = some (some .feed)) (hn : A ρ φ = .ok (.int n) φ) (h0 : 0 < n) (h1 : n < 1073741824) (ht : 0 ≤ φ.told) : eCall F__law_draw (aCons (eVar 1) (aCons A aNil)) ρ φ = .ok (.int (φ.draw n).1) (φ.draw n).2 := by
  refine call_ok (two_ok (v_ok h) hn) ?_
  show (if (0 < n ∧ n < 1073741824) ∧ 0 ≤ φ.told then O.ok (D.int (φ.draw n).1) (φ.draw n).2 else .bad) = _
  rw [if_pos ⟨⟨h0, h1⟩, ht⟩]
end Pf

set_option Elab.async false
set_option linter.all false
set_option maxRecDepth 100000
set_option maxHeartbeats 4000000
namespace Pf
open PySem PySem.Spec PyProof.Rows L2
/-! evaluation, shared -/
def nrow (P : List Nat) : D := row (P.map fun (k : Nat) => (k : Int))
def rg (a n : Nat) : List Nat := (List.range (n - a)).map fun t => a + t
theorem rg_mem {a n k : Nat} : k ∈ rg a n ↔ a ≤ k ∧ k < n := by
  unfold rg
  rw [List.mem_map]
  constructor
  · rintro ⟨t, ht, rfl⟩
    rw [List.mem_range] at ht
    omega
  · intro h
    exact ⟨k - a, List.mem_range.mpr (by omega), by omega⟩
theorem rg_ok {ρ : En} {φ φ1 : Fd} {S : SA} {a n : Nat} (h : S ρ φ = .ok [.int (a : Int), .int (n : Int)] φ1) (ha : a ≤ 1000000) (hn : n ≤ 1000000) : iRg2 S ρ φ = .ok ((rg a n).map fun (k : Nat) => D.int k) φ1 := by
  rw [rg2_ok h (small62_of ⟨by omega, by omega⟩) (small62_of ⟨by omega, by omega⟩)]
  unfold rg
  rw [List.map_map, show ((n : Int) - (a : Int)).toNat = n - a by omega]
  rfl
theorem rg_len {a n : Nat} : (rg a n).length = n - a := by unfold rg; rw [List.length_map, List.length_range]
def gw (rows : List (List Int)) (k : Nat) : List Int := rows.getD k []
theorem gw_get {rows : List (List Int)} {k : Nat} (h : k < rows.length) : rows[k]? = some (gw rows k) := by
  unfold gw
  rw [List.getD_eq_getElem?_getD, List.getElem?_eq_getElem h]; rfl
theorem gw_mem {rows : List (List Int)} {k : Nat} (h : k < rows.length) : gw rows k ∈ rows := List.mem_of_getElem? (gw_get h)
theorem gIx_rows {rows : List (List Int)} {k : Nat} (h : k < rows.length) : gIx (rws rows) (.int (k : Int)) = some (row (gw rows k)) :=
  gIx_lst (by rw [List.getElem?_map, gw_get h]; rfl)
theorem rows_range (rows : List (List Int)) : (List.range rows.length).map (gw rows) = rows := by
  refine List.ext_getElem? fun i => ?_
  by_cases h : i < rows.length
  · rw [List.getElem?_map, List.getElem?_range h, gw_get h]; rfl
  · rw [List.getElem?_eq_none (by simp; omega), List.getElem?_eq_none (by omega)]
theorem ne_int (a b : Int) : gNe (.int a) (.int b) = some (.bl (!decide (a = b))) := emb_int.gNe (by decide) a b
theorem eq_int (a b : Int) : gEq (.int a) (.int b) = some (.bl (decide (a = b))) := emb_int.gEq (by decide) a b
theorem in_nrow (k : Nat) (P : List Nat) : gIn false (.int (k : Int)) (nrow P) = some (.bl (decide (k ∈ P))) := by
  refine (emb_int.gIn (by decide) false (k : Int) (P.map fun (k : Nat) => (k : Int))).trans ?_
  rw [if_neg (by decide)]
  congr 2
  refine decide_eq_decide.mpr ?_
  rw [List.mem_map]
  constructor
  · rintro ⟨j, hj, e⟩
    have : j = k := by omega
    rw [← this]; exact hj
  · intro h
    exact ⟨k, h, rfl⟩
theorem enum_go : ∀ (rows : List (List Int)) (i : Nat), enumD i (rows.map row) = (List.range rows.length).map fun k => D.tup [.int ((i + k : Nat) : Int), row (gw rows k)]
  | [], _ => rfl
  | r :: rows, i => by
    show D.tup [.int (i : Nat), row r] :: enumD (i + 1) (rows.map row) = _
    rw [enum_go rows (i + 1), List.length_cons, List.range_succ_eq_map, List.map_cons, List.map_map]
    congr 1
    refine List.map_congr_left fun k _ => ?_
    show D.tup [.int ((i + 1 + k : Nat) : Int), row (gw rows k)] = D.tup [.int ((i + (k + 1) : Nat) : Int), row (gw (r :: rows) (k + 1))]
    rw [show i + 1 + k = i + (k + 1) by omega]
    rfl
theorem enum_rows (rows : List (List Int)) : enumD 0 (rows.map row) = (List.range rows.length).map fun (k : Nat) => D.tup [.int (k : Int), row (gw rows k)] := by
  rw [enum_go]
  refine List.map_congr_left fun k _ => ?_
  rw [Nat.zero_add]
section
variable {rows : List (List Int)}
theorem gLen_rows : gLen [rws rows] = some (.int (rows.length : Int)) := sum_lens _ _ (by rw [List.length_map])
end
theorem notin_ints (x : Int) (l : List Int) : gIn true (.int x) (row l) = some (.bl (!decide (x ∈ l))) := (emb_int.gIn (by decide) true x l).trans (by rw [if_pos rfl])
theorem flat_len {α β : Type} {f : α → List β} {k : Nat} : ∀ {l : List α}, (∀ x ∈ l, (f x).length ≤ k) → (l.flatMap f).length ≤ l.length * k
  | [], _ => by simp
  | x :: l, h => by
    rw [List.flatMap_cons, List.length_append, List.length_cons, Nat.succ_mul]
    have h1 := h x List.mem_cons_self
    have h2 := flat_len fun y hy => h y (List.mem_cons_of_mem _ hy)
    omega
theorem flat_sub {α β : Type} {f g : α → List β} : ∀ {l : List α}, (∀ x ∈ l, (f x).Sublist (g x)) → (l.flatMap f).Sublist (l.flatMap g)
  | [], _ => List.Sublist.refl _
  | x :: l, h => by
    rw [List.flatMap_cons, List.flatMap_cons]
    exact (h x List.mem_cons_self).append (flat_sub fun y hy => h y (List.mem_cons_of_mem _ hy))
theorem for_app {α β : Type} {T : Tg} {B : SS} {e : α → D} {φ : Fd} (f : α → List β) (St : List β → En → Prop) : ∀ (xs : List α) (acc : List β) {ρ : En}, St acc ρ → acc.length + (xs.flatMap f).length ≤ 100000 →
    (∀ x ∈ xs, ∀ (acc : List β) (ρ : En), acc.length + (f x).length ≤ 100000 → St acc ρ → ∃ ρ1, T (e x) ρ = some ρ1 ∧ ∃ ρ2, (B ρ1 φ = .nx ρ2 φ ∨ B ρ1 φ = .ct ρ2 φ) ∧ St (acc ++ f x) ρ2) →
    ∃ ρ', forGo T B (xs.map e) ρ φ = .nx ρ' φ ∧ St (acc ++ xs.flatMap f) ρ'
  | [], acc, ρ, h0, _, _ => ⟨ρ, rfl, by simpa using h0⟩
  | x :: xs, acc, ρ, h0, hl, hs => by
    rw [List.flatMap_cons, List.length_append] at hl
    obtain ⟨ρ1, h1, ρ2, h2, h3⟩ := hs x List.mem_cons_self acc ρ (by omega) h0
    obtain ⟨ρ', h4, h5⟩ := for_app (B := B) (e := e) (φ := φ) f St xs (acc ++ f x) h3 (by rw [List.length_append]; omega) fun y hy => hs y (List.mem_cons_of_mem _ hy)
    refine ⟨ρ', ?_, by rw [List.flatMap_cons, ← List.append_assoc]; exact h5⟩
    rw [List.map_cons]
    unfold forGo
    rw [h1]
    rcases h2 with h2 | h2 <;> simp only [h2] <;> exact h4
theorem for_first {α : Type} {T : Tg} {B : SS} {e : α → D} {φ : Fd} (good : α → Bool) (out : α → D) (Inv : En → Prop) : ∀ (xs : List α) {ρ : En}, Inv ρ → (∀ x ∈ xs, ∀ ρ, Inv ρ → ∃ ρ1, T (e x) ρ = some ρ1 ∧ (good x = true → B ρ1 φ = .rt (out x) φ) ∧ (good x = false → ∃ ρ2, (B ρ1 φ = .nx ρ2 φ ∨ B ρ1 φ = .ct ρ2 φ) ∧ Inv ρ2)) →
    (xs.find? good = none → ∃ ρ', forGo T B (xs.map e) ρ φ = .nx ρ' φ ∧ Inv ρ') ∧ (∀ x, xs.find? good = some x → forGo T B (xs.map e) ρ φ = .rt (out x) φ)
  | [], ρ, h0, _ => ⟨fun _ => ⟨ρ, rfl, h0⟩, fun x h => by cases h⟩
  | x :: xs, ρ, h0, hs => by
    obtain ⟨ρ1, h1, h2, h3⟩ := hs x List.mem_cons_self ρ h0
    cases hg : good x with
    | true =>
      rw [List.find?_cons_of_pos hg]
      refine ⟨fun h => (by cases h), fun y hy => ?_⟩
      cases hy
      rw [List.map_cons]; unfold forGo; rw [h1]; simp only [h2 hg]
    | false =>
      rw [List.find?_cons_of_neg (by rw [hg]; decide)]
      obtain ⟨ρ2, h4, h5⟩ := h3 hg
      have ih := for_first (B := B) (e := e) (φ := φ) good out Inv xs h5 fun y hy => hs y (List.mem_cons_of_mem _ hy)
      have step : forGo T B ((x :: xs).map e) ρ φ = forGo T B (xs.map e) ρ2 φ := by
        rw [List.map_cons]
        conv => lhs; unfold forGo
        rw [h1]
        rcases h4 with h4 | h4 <;> simp only [h4]
      rw [step]
      exact ih
theorem ne_bl (a b : Bool) : gNe (.bl a) (.bl b) = some (.bl (!decide (a = b))) := by cases a <;> cases b <;> rfl
theorem eq_bl (a b : Bool) : gEq (.bl a) (.bl b) = some (.bl (decide (a = b))) := by cases a <;> cases b <;> rfl
theorem ne_self {d : D} (h : d.shp = true) : gNe d d = some (.bl false) := by
  unfold gNe
  rw [h]
  have hc : d.py.canLay0 = true := by
    unfold D.shp SeqAt.shaped at h
    rw [Bool.and_eq_true] at h
    exact h.1
  show some (D.bl (!PyData.eqv d.py d.py)) = _
  rw [PySem.SeqAt.eqv_refl d.py hc]
  rfl
theorem all_bls {α : Type} (l : List α) (p : α → Bool) : gAll [.lst (l.map fun a => D.bl (p a))] = some (.bl (l.all p)) := by
  have e : (l.map fun a => D.bl (p a)) = (l.map p).map D.bl := by rw [List.map_map]; rfl
  show (blsOf _).map (fun ns : List Bool => D.bl (ns.all id)) = _
  rw [e, blsOf_map]
  show some (D.bl ((l.map p).all id)) = _
  rw [List.all_map]
  rfl
theorem seq_bk {P Q : SS} {ρ ρ1 : En} {φ φ1 : Fd} (h1 : P ρ φ = .bk ρ1 φ1) : sSeq P Q ρ φ = .bk ρ1 φ1 := by unfold sSeq; rw [h1]; rfl
theorem for_brk {α : Type} {T : Tg} {B : SS} {e : α → D} {φ : Fd} (good : α → Bool) (Inv Out : En → Prop) : ∀ (xs : List α) {ρ : En}, Inv ρ → (∀ x ∈ xs, ∀ ρ, Inv ρ → ∃ ρ1, T (e x) ρ = some ρ1 ∧ (good x = true → ∃ ρ2, B ρ1 φ = .nx ρ2 φ ∧ Inv ρ2) ∧ (good x = false → ∃ ρ2, B ρ1 φ = .bk ρ2 φ ∧ Out ρ2)) →
    ∃ ρ', forGo T B (xs.map e) ρ φ = .nx ρ' φ ∧ (xs.all good = true → Inv ρ') ∧ (xs.all good = false → Out ρ')
  | [], ρ, h0, _ => ⟨ρ, rfl, fun _ => h0, fun h => (by cases h)⟩
  | x :: xs, ρ, h0, hs => by
    obtain ⟨ρ1, h1, h2, h3⟩ := hs x List.mem_cons_self ρ h0
    rw [List.all_cons]
    cases hg : good x with
    | true =>
      obtain ⟨ρ2, h4, h5⟩ := h2 hg
      obtain ⟨ρ', e1, e2⟩ := for_brk (B := B) (e := e) (φ := φ) good Inv Out xs h5 fun y hy => hs y (List.mem_cons_of_mem _ hy)
      refine ⟨ρ', ?_, by simpa using e2⟩
      rw [List.map_cons]
      unfold forGo
      rw [h1]
      simp only [h4]
      exact e1
    | false =>
      obtain ⟨ρ2, h4, h5⟩ := h3 hg
      refine ⟨ρ2, ?_, fun h => (by simp at h), fun _ => h5⟩
      rw [List.map_cons]
      unfold forGo
      rw [h1]
      simp only [h4]
theorem eand_val {A B : SX} {ρ : En} {φ : Fd} {a b : Bool} (ha : A ρ φ = .ok (.bl a) φ) (hb : B ρ φ = .ok (.bl b) φ) : eAnd A B ρ φ = .ok (.bl (a && b)) φ := by
  cases a with
  | true => exact eand_yes ha hb
  | false => exact eand_no ha
end Pf

set_option Elab.async false
set_option linter.all false
set_option maxRecDepth 100000
set_option maxHeartbeats 4000000
namespace Pf
open PySem PySem.Spec PyProof.Rows L2

/-! ## plain evaluation, further -/
theorem any_bls {α : Type} (l : List α) (p : α → Bool) : gAny [.lst (l.map fun a => D.bl (p a))] = some (.bl (l.any p)) := by
  have e : (l.map fun a => D.bl (p a)) = (l.map p).map D.bl := by rw [List.map_map]; rfl
  show (blsOf _).map (fun ns : List Bool => D.bl (ns.any id)) = _
  rw [e, blsOf_map]
  show some (D.bl ((l.map p).any id)) = _
  rw [List.any_map]
  rfl
theorem sl_take (l : List D) (k : Nat) : gSl (.lst l) none (some (k : Int)) = some (.lst (l.take k)) := by
  show some (D.lst (cutD l none (some (k : Int)))) = _
  unfold cutD
  rw [HT.sIx_nat]
  show some (D.lst ((l.drop 0).take (min k l.length - 0))) = _
  rw [List.drop_zero, Nat.sub_zero]
  congr 2
  by_cases h : k ≤ l.length
  · rw [Nat.min_eq_left h]
  · rw [Nat.min_eq_right (by omega), List.take_of_length_le (Nat.le_refl _), List.take_of_length_le (by omega)]
theorem sl_drop (l : List D) (k : Nat) : gSl (.lst l) (some (k : Int)) none = some (.lst (l.drop k)) := by
  show some (D.lst (cutD l (some (k : Int)) none)) = _
  unfold cutD
  rw [HT.sIx_nat]
  show some (D.lst ((l.drop (min k l.length)).take (l.length - min k l.length))) = _
  congr 2
  by_cases h : k ≤ l.length
  · rw [Nat.min_eq_left h, List.take_of_length_le (by rw [List.length_drop]; omega)]
  · rw [Nat.min_eq_right (by omega), List.drop_of_length_le (Nat.le_refl _), List.drop_of_length_le (by omega), List.take_nil]
theorem min1_is {ns : List Int} {k : Int} (hk : k ∈ ns) (h : ∀ j ∈ ns, k ≤ j) : gMin1 [row ns] = some (.int k) := by
  show (intsOf (ns.map D.int)).bind (fun ns => (minL ns).map D.int) = _
  rw [intsOf_map]
  show (minL ns).map D.int = _
  cases e : minL ns with
  | none =>
    cases ns with
    | nil => cases hk
    | cons a l => cases e
  | some j => rw [minL_iff e hk h]; rfl
/-- a loop that may return -/
theorem for_find {α : Type} {T : Tg} {B : SS} {e : α → D} {φ : Fd} (good : α → Bool) (out : α → D) (Inv : En → Prop) : ∀ (xs : List α) {ρ : En}, Inv ρ → (∀ x ∈ xs, ∀ ρ, Inv ρ → ∃ ρ1, T (e x) ρ = some ρ1 ∧ (good x = true → B ρ1 φ = .rt (out x) φ) ∧ (good x = false → ∃ ρ2, (B ρ1 φ = .nx ρ2 φ) ∧ Inv ρ2)) →
    (xs.all (fun x => !good x) = true → ∃ ρ', forGo T B (xs.map e) ρ φ = .nx ρ' φ ∧ Inv ρ') ∧ (xs.all (fun x => !good x) = false → ∃ x ∈ xs, good x = true ∧ forGo T B (xs.map e) ρ φ = .rt (out x) φ)
  | [], ρ, h0, _ => ⟨fun _ => ⟨ρ, rfl, h0⟩, fun h => by cases h⟩
  | x :: xs, ρ, h0, hs => by
    obtain ⟨ρ1, h1, h2, h3⟩ := hs x List.mem_cons_self ρ h0
    cases hg : good x with
    | true =>
      refine ⟨fun h => ?_, fun _ => ⟨x, List.mem_cons_self, hg, ?_⟩⟩
      · rw [List.all_cons, hg] at h; cases h
      · rw [List.map_cons]; unfold forGo; rw [h1]; simp only [h2 hg]
    | false =>
      obtain ⟨ρ2, h4, h5⟩ := h3 hg
      have ih := for_find good out Inv xs h5 fun y hy => hs y (List.mem_cons_of_mem _ hy)
      have step : forGo T B ((x :: xs).map e) ρ φ = forGo T B (xs.map e) ρ2 φ := by
        rw [List.map_cons]
        conv => lhs; unfold forGo
        rw [h1]
        simp only [h4]
      refine ⟨fun h => ?_, fun h => ?_⟩
      · rw [List.all_cons, hg, Bool.not_false, Bool.true_and] at h
        obtain ⟨ρ', e1, e2⟩ := ih.1 h
        exact ⟨ρ', by rw [step]; exact e1, e2⟩
      · rw [List.all_cons, hg, Bool.not_false, Bool.true_and] at h
        obtain ⟨y, hy, g, e1⟩ := ih.2 h
        exact ⟨y, List.mem_cons_of_mem _ hy, g, by rw [step]; exact e1⟩
/-! ## rows of the program -/
theorem f_less {r s : List Int} (φ : Fd) (hl : r.length ≤ 1000) : F_row_less [row r, row s] φ = .ok (row (less r s 1)) φ := by
  refine run_ret ?_
  rw [lcm_ok (r.zip s) _ (fun p => D.int (p.1 - p.2)) (zip_rows (two_ok (v_ok rfl) (v_ok rfl))) (zip_len hl) fun p hp => ⟨_, rfl, bin_ok (v_ok rfl) (v_ok rfl) rfl⟩]
  have : (r.zip s).map (fun p => D.int (p.1 - p.2)) = (less r s 1).map D.int := by
    unfold less
    rw [← zip_map, List.map_map]
    refine List.map_congr_left fun p _ => ?_
    show D.int (p.1 - p.2) = D.int (p.1 - 1 * p.2)
    rw [Int.one_mul]
  rw [this]
  rfl
theorem f_square {r : List Int} (φ : Fd) (hr : ∀ x ∈ r, x.natAbs ≤ 1000000) (hl : r.length ≤ 1000) : F_row_square [row r] φ = .ok (.int (dot r r)) φ :=
  run_ret (call_ok (two_ok (v_ok rfl) (v_ok rfl)) (f_product φ hr hl))
def fk (h : List Int) : D := if h.any (fun a => !decide ((a - h.headD 0).fmod 2 = 0)) then .int 8 else if !decide (h.sum.fmod 4 = 0) then .int 9 else .non
theorem f_fk {h : List Int} (φ : Fd) (hl : h.length = 8) : F_fault_of_kind [row h] φ = .ok (fk h) φ := by
  have hd : gIx (row h) (.int 0) = some (.int (h.headD 0)) := by
    match h, hl with
    | a :: t, _ => exact gIx_row (k := 0) rfl
  have e1 : bTru (eCB gAny (aCons (eLc (iSeq (eVar 0)) (tgN 1) bYes (eBin gNe (eBin gMod (eBin gSub (eVar 1) (eBin gIx (eVar 0) (eInt 0))) (eInt 2)) (eInt 0)) [1]) aNil)) [some (row h), none] φ = .ok (h.any fun a => !decide ((a - h.headD 0).fmod 2 = 0)) φ := by
    refine trub_ok (cb1_ok (lcm_ok h D.int (fun a => D.bl (!decide ((a - h.headD 0).fmod 2 = 0))) (seq_l (v_ok rfl)) (size_le (by omega)) fun a _ => ⟨_, rfl, bin_ok (bin_ok (bin_ok (v_ok rfl) (bin_ok (v_ok rfl) rfl hd) rfl) rfl (gMod_ok (by decide))) rfl (ne_int _ _)⟩) (any_bls h _))
  have e2 : bCmp gNe (eBin gMod (eCB gSum (aCons (eVar 0) aNil)) (eInt 4)) (eInt 0) [some (row h), none] φ = .ok (!decide (h.sum.fmod 4 = 0)) φ := cmp_ok (bin_ok (cb1_ok (v_ok rfl) (gSum_ints h)) rfl (gMod_ok (by decide))) rfl (ne_int _ _)
  unfold fk
  by_cases q1 : h.any (fun a => !decide ((a - h.headD 0).fmod 2 = 0)) = true
  · rw [if_pos q1]
    exact run_rt (seq_rt (if_yes (e1.trans (by rw [q1])) (seq_rt (ret_ok rfl))))
  · rw [if_neg q1]
    rw [Bool.not_eq_true] at q1
    by_cases q2 : (!decide (h.sum.fmod 4 = 0)) = true
    · rw [if_pos q2]
      exact run_rt (seq_nx (if_skip (e1.trans (by rw [q1]))) (seq_rt (if_yes (e2.trans (by rw [q2])) (seq_rt (ret_ok rfl)))))
    · rw [if_neg q2]
      rw [Bool.not_eq_true] at q2
      exact run_rt (seq_nx (if_skip (e1.trans (by rw [q1]))) (seq_nx (if_skip (e2.trans (by rw [q2]))) (seq_rt (ret_ok rfl))))
theorem fk_is {h : List Int} (hl : h.length = 8) : gIs (fk h) .non = some (.bl (decide (Lat h))) := by
  by_cases q : Lat h
  · have h1 : h.any (fun a => !decide ((a - h.headD 0).fmod 2 = 0)) = false := by
      rw [List.any_eq_false]
      intro a ha
      have e : (a - h.headD 0).fmod 2 = 0 := by rw [Int.fmod_eq_emod_of_nonneg _ (by decide)]; exact q.2.1 a ha
      rw [e]
      decide
    have h2 : (!decide (h.sum.fmod 4 = 0)) = false := by
      have := q.2.2
      rw [Int.fmod_eq_emod_of_nonneg _ (by decide)]
      simp [this]
    unfold fk
    rw [h1, h2, decide_eq_true q]
    rfl
  · rw [decide_eq_false q]
    unfold fk
    by_cases q1 : h.any (fun a => !decide ((a - h.headD 0).fmod 2 = 0)) = true
    · rw [if_pos q1]; rfl
    · rw [if_neg q1]
      by_cases q2 : (!decide (h.sum.fmod 4 = 0)) = true
      · rw [if_pos q2]; rfl
      · refine absurd ⟨hl, fun a ha => ?_, ?_⟩ q
        · rw [Bool.not_eq_true, List.any_eq_false] at q1
          have := q1 a ha
          rw [Int.fmod_eq_emod_of_nonneg _ (by decide)] at this
          simpa using this
        · rw [Int.fmod_eq_emod_of_nonneg _ (by decide)] at q2
          simpa using q2
theorem fk_lat {h : List Int} (q : Lat h) : fk h = .non := by
  have := fk_is q.1
  rw [decide_eq_true q] at this
  unfold fk at this ⊢
  split
  · rename_i h1; rw [if_pos h1] at this; cases this
  · rename_i h1
    rw [if_neg h1] at this
    split
    · rename_i h2; rw [if_pos h2] at this; cases this
    · rfl
theorem half_ints (t : List Int) : (t.map fun a => D.int (a.fdiv 2)) = (half t).map D.int := by
  unfold half
  rw [List.map_map]
  rfl
theorem f_twice {t : List Int} (φ : Fd) (hl : t.length = 8) : F_is_twice [row t] φ = .ok (.bl (twb t)) φ := by
  have e1 : bTru (eCB gAny (aCons (eLc (iSeq (eVar 0)) (tgN 1) bYes (eBin gNe (eBin gMod (eVar 1) (eInt 2)) (eInt 0)) [1]) aNil)) [some (row t), none] φ = .ok (t.any fun a => !decide (a.fmod 2 = 0)) φ :=
    trub_ok (cb1_ok (lcm_ok t D.int (fun a => D.bl (!decide (a.fmod 2 = 0))) (seq_l (v_ok rfl)) (size_le (by omega)) fun a _ => ⟨_, rfl, bin_ok (bin_ok (v_ok rfl) rfl (gMod_ok (by decide))) rfl (ne_int _ _)⟩) (any_bls t _))
  have e2 : eLc (iSeq (eVar 0)) (tgN 1) bYes (eBin gDiv (eVar 1) (eInt 2)) [1] [some (row t), none] φ = .ok (row (half t)) φ :=
    Eq.trans (b := O.ok (D.lst (t.map fun a => D.int (a.fdiv 2))) φ) (lcm_ok t D.int (fun a => D.int (a.fdiv 2)) (seq_l (v_ok rfl)) (size_le (by omega)) fun a _ => ⟨_, rfl, bin_ok (v_ok rfl) rfl (gDiv_ok (by decide) (by decide))⟩) (by rw [half_ints]; rfl)
  have hh : (half t).length = 8 := by unfold half; rw [List.length_map, hl]
  unfold twb
  by_cases q : t.any (fun a => !decide (a.fmod 2 = 0)) = true
  · have : t.all (fun a => a.fmod 2 == 0) = false := by
      rw [List.any_eq_true] at q
      obtain ⟨a, ha, hq⟩ := q
      rw [List.all_eq_false]
      exact ⟨a, ha, by simpa using hq⟩
    rw [this]
    exact run_rt (seq_rt (if_yes (e1.trans (by rw [q])) (seq_rt (ret_ok rfl))))
  · rw [Bool.not_eq_true] at q
    have ha : t.all (fun a => a.fmod 2 == 0) = true := by
      rw [List.any_eq_false] at q
      rw [List.all_eq_true]
      intro a ha
      simpa using q a ha
    rw [ha, Bool.true_and]
    exact run_rt (seq_nx (if_skip (e1.trans (by rw [q]))) (seq_rt (ret_ok (bin_ok (call_ok (one_ok e2) (f_fk φ hh)) rfl (fk_is hh)))))
theorem forGo_nx {T : Tg} {B : SS} {d : D} {ds : List D} {ρ ρ1 ρ2 : En} {φ φ2 : Fd} (h1 : T d ρ = some ρ1) (h2 : B ρ1 φ = .nx ρ2 φ2) : forGo T B (d :: ds) ρ φ = forGo T B ds ρ2 φ2 := by
  conv => lhs; unfold forGo
  rw [h1]
  simp only [h2]
theorem map_flat : ∀ Rs : List (List Int), Rs.map (fun r => r ++ []) = Rs.flatMap fun r => [r ++ []]
  | [] => rfl
  | r :: Rs => by rw [List.map_cons, List.flatMap_cons, map_flat Rs]; rfl
/-! ## frames -/
def tupI (c : List Int) : D := .tup (c.map .int)
def flg (rs : List (List Int)) (cs : List (List Int)) : List (List Int) := cs.foldl (fun rs c => rs.flatMap fun r => c.map fun x => r ++ [x]) rs
theorem flg_prod : ∀ (cs : List (List Int)) (rs : List (List Int)), flg rs cs = rs.flatMap fun r => (prodL cs).map fun w => r ++ w
  | [], rs => by
    show rs = rs.flatMap fun r => [r ++ []]
    rw [← map_flat]
    have : (fun r : List Int => r ++ []) = id := by funext r; simp
    rw [this, List.map_id]
  | c :: cs, rs => by
    show flg (rs.flatMap fun r => c.map fun x => r ++ [x]) cs = _
    rw [flg_prod cs, List.flatMap_assoc]
    congr 1
    funext r
    show (c.map fun x => r ++ [x]).flatMap _ = (c.flatMap fun x => (prodL cs).map fun w => x :: w).map _
    rw [List.flatMap_map, List.map_flatMap]
    congr 1
    funext x
    rw [List.map_map]
    refine List.map_congr_left fun w _ => ?_
    simp
theorem flg_all (cs : List (List Int)) : flg [[]] cs = prodL cs := by
  rw [flg_prod, List.flatMap_cons, List.flatMap_nil, List.append_nil]
  exact List.map_id' _
theorem flg_len : ∀ (cs : List (List Int)) (rs : List (List Int)), (∀ c ∈ cs, c.length ≤ 2) → (flg rs cs).length ≤ 2 ^ cs.length * rs.length
  | [], rs, _ => by show rs.length ≤ _; simp
  | c :: cs, rs, h => by
    have h1 := flg_len cs (rs.flatMap fun r => c.map fun x => r ++ [x]) fun d hd => h d (List.mem_cons_of_mem _ hd)
    have h2 : (rs.flatMap fun r => c.map fun x => r ++ [x]).length ≤ 2 * rs.length := by
      rw [List.length_flatMap]
      have hc := h c List.mem_cons_self
      clear h1
      induction rs with
      | nil => simp
      | cons r rs ih => rw [List.map_cons, List.sum_cons, List.length_map, List.length_cons]; omega
    show (flg _ cs).length ≤ _
    rw [List.length_cons, Nat.pow_succ, Nat.mul_assoc]
    exact Nat.le_trans h1 (Nat.mul_le_mul_left _ h2)
theorem flg_pl : ∀ (cs : List (List Int)) (rs : List (List Int)) (n : Nat), (∀ r ∈ rs, r.length ≤ n) → ∀ r ∈ flg rs cs, r.length ≤ n + cs.length
  | [], rs, n, h => h
  | c :: cs, rs, n, h => fun r hr => by
    have := flg_pl cs (rs.flatMap fun r => c.map fun x => r ++ [x]) (n + 1) (fun s hs => by
      obtain ⟨t, ht, hs⟩ := List.mem_flatMap.mp hs
      obtain ⟨x, _, rfl⟩ := List.mem_map.mp hs
      have := h t ht
      rw [List.length_append]
      simp
      exact this) r hr
    rw [List.length_cons]
    omega
theorem f_lists {cs : List (List Int)} (h2 : ∀ c ∈ cs, c.length ≤ 2) (h8 : cs.length ≤ 8) (φ : Fd) : F_lists_of [.lst (cs.map tupI)] φ = .ok (rws (prodL cs)) φ := by
  obtain ⟨ρ', l1, y2, rfl⟩ := for_inv (T := tgN 2) (φ := φ) (e := tupI) (B := (sSeq (sSet 1 (eLc2 (iSeq (eVar 1)) (tgN 3) bYes (iSeq (eVar 2)) (tgN 4) bYes (eBin gAdd (eVar 3) (eLst (aCons (eVar 4) aNil))) [3, 4] [4])) sNil))
    (fun pre ρ => ∃ y2, ρ = [some (.lst (cs.map tupI)), some (rws (flg [[]] pre)), y2, none, none]) cs [] (ρ := [some (.lst (cs.map tupI)), some (rws [[]]), none, none, none]) ⟨none, rfl⟩ (by
    rintro pre c post ρ hpp ⟨y2, rfl⟩
    have hp' : cs = pre ++ c :: post := hpp
    have hpre : ∀ d ∈ pre ++ [c], d.length ≤ 2 := fun d hd => h2 d (by
      rw [hp']
      rcases List.mem_append.mp hd with hd | hd
      · simp [hd]
      · rw [List.mem_singleton.mp hd]; simp)
    have hpl : (pre ++ [c]).length ≤ 8 := by rw [hp'] at h8; rw [List.length_append] at h8 ⊢; simp at h8 ⊢; omega
    have es : ((flg [[]] pre).flatMap fun r => (c.filter fun _ => true).map fun x => row (r ++ [x])) = (flg [[]] (pre ++ [c])).map row := by
      have hf : c.filter (fun _ => true) = c := List.filter_eq_self.mpr fun _ _ => rfl
      rw [hf]
      unfold flg
      rw [List.foldl_append]
      show _ = (List.flatMap _ (pre.foldl _ [[]])).map row
      rw [List.map_flatMap]
      congr 1
      funext r
      rw [List.map_map]
      rfl
    have hlen : (flg [[]] (pre ++ [c])).length ≤ 256 := by
      have := flg_len (pre ++ [c]) [[]] hpre
      have h3 : 2 ^ (pre ++ [c]).length ≤ 2 ^ 8 := Nat.pow_le_pow_right (by decide) hpl
      simp only [List.length_cons, List.length_nil] at this
      omega
    refine ⟨_, rfl, _, .inl (seq_one (set_ok (lc2_ok (flg [[]] pre) row (fun _ => c) D.int (fun _ _ => true) (fun r x => row (r ++ [x])) (seq_l (v_ok rfl)) ?_ fun r hr => ⟨_, rfl, seq_t (v_ok rfl), fun x hx => ⟨_, rfl, rfl, fun _ => bin_ok (v_ok rfl) (lst_ok (one_ok (v_ok rfl)) (size_le (show 1 ≤ 1000000 by decide))) ?_⟩⟩))), some (tupI c), ?_⟩
    · rw [es, List.length_map]
      exact size_le (Nat.le_trans hlen (by decide))
    · have := flg_pl pre [[]] 0 (fun r hr => by rw [List.mem_singleton.mp hr]; exact Nat.le_refl _) r hr
      have hpl' : pre.length ≤ 8 := by rw [List.length_append] at hpl; omega
      refine (gAdd_l (by rw [List.length_map]; show r.length + 1 ≤ 1000000; omega)).trans ?_
      unfold row
      rw [List.map_append]
      rfl
    · rw [es]
      rfl)
  rw [List.nil_append, flg_all] at l1
  exact run_rt (seq_nx (set_ok (d := rws [[]]) rfl) (seq_nx (for_ok (seq_l (v_ok rfl)) l1) (seq_rt (ret_ok (v_ok rfl)))))
def tblR : List (Int × D) := [(0, .tup [.int 0]), (1, .tup [.int (-3), .int 1]), (2, .tup [.int (-2), .int 2]), (3, .tup [.int (-1), .int 3])]
theorem gd_RS {k : Int} (h0 : 0 ≤ k) (h1 : k < 4) : gdF tblR (.int k) = some (tupI (RS k)) := by
  rcases (show k = 0 ∨ k = 1 ∨ k = 2 ∨ k = 3 by omega) with rfl | rfl | rfl | rfl <;> rfl
theorem e4c_all : (List.range 8).flatMap e4c = e4L 8 := by decide +kernel
theorem gix_ok {tbl : List (Int × D)} {ρ : En} {φ : Fd} {B : SX} {k d : D} (hb : B ρ φ = .ok k φ) (h : gdF tbl k = some d) : eGIx tbl B ρ φ = .ok d φ := by
  unfold eGIx
  rw [hb]
  show ofO (gdF tbl k) φ = _
  rw [h]
  rfl
theorem gMul_rep (x : Int) (n : Nat) (hn : n ≤ 1000) : gMul (.lst [.int x]) (.int (n : Int)) = some (row (List.replicate n x)) := by
  show (if -9223372036854775808 ≤ (n : Int) ∧ (n : Int) < 9223372036854775808 ∧ [D.int x].length * (n : Int).toNat ≤ sizeLine then some (D.lst (List.replicate (n : Int).toNat [D.int x]).flatten) else none) = _
  rw [if_pos ⟨by omega, by omega, size_le (by simp; omega)⟩, Int.toNat_natCast]
  unfold row
  congr 2
  clear hn
  induction n with
  | zero => rfl
  | succ n ih => rw [List.replicate_succ, List.flatten_cons, ih, List.replicate_succ]; rfl
theorem RS_len (k : Int) : (RS k).length ≤ 2 := by
  unfold RS
  split
  · decide
  · split
    · decide
    · split <;> decide
theorem RS_bd {k : Int} : ∀ x ∈ RS k, x.natAbs ≤ 3 := by
  unfold RS
  split
  · decide
  · split
    · decide
    · split <;> decide
theorem prodL_bd : ∀ {q : List Int} {w : List Int}, w ∈ prodL (q.map RS) → w.length = q.length ∧ ∀ x ∈ w, x.natAbs ≤ 3
  | [], w, h => by rw [List.mem_singleton.mp (show w ∈ [[]] from h)]; exact ⟨rfl, fun x hx => by cases hx⟩
  | k :: q, w, h => by
    obtain ⟨x, hx, v, hv, rfl⟩ := prodL_cons.mp h
    obtain ⟨h1, h2⟩ := prodL_bd hv
    refine ⟨by rw [List.length_cons, List.length_cons, h1], fun y hy => ?_⟩
    rcases List.mem_cons.mp hy with rfl | hy
    · exact RS_bd _ hx
    · exact h2 y hy
theorem prodL_len {q : List Int} (h8 : q.length ≤ 8) : (prodL (q.map RS)).length ≤ 256 := by
  rw [← flg_all]
  have := flg_len (q.map RS) [[]] fun c hc => by
    obtain ⟨k, _, rfl⟩ := List.mem_map.mp hc
    exact RS_len k
  have h3 : 2 ^ (q.map RS).length ≤ 2 ^ 8 := Nat.pow_le_pow_right (by decide) (by rw [List.length_map]; exact h8)
  simp only [List.length_cons, List.length_nil] at this
  omega
theorem rr_len {q : List Int} (h8 : q.length ≤ 8) : (rr q).length ≤ 300 := by
  unfold rr
  rw [List.length_append]
  have h1 := List.length_filter_le (fun w => decide (dot w w = 4)) (prodL (q.map RS))
  have h2 := prodL_len h8
  have h3 : (if q.sum = 0 then e4L 8 else []).length ≤ 16 := by split <;> decide +kernel
  omega
theorem f_rr {q : List Int} (h8 : q.length = 8) (hq : ∀ k ∈ q, 0 ≤ k ∧ k < 4) (φ : Fd) : F_rows_with_residues [row q] φ = .ok (rws (rr q)) φ := by
  obtain ⟨P, hP⟩ : ∃ P, P = (prodL (q.map RS)).filter fun w => decide (dot w w = 4) := ⟨_, rfl⟩
  have hPl : P.length ≤ 256 := by rw [hP]; exact Nat.le_trans (List.length_filter_le _ _) (prodL_len (by omega))
  have e1 : eLc (iSeq (eCall F_lists_of (aCons (eLc (iSeq (eVar 0)) (tgN 4) bYes (eGIx [(0, .tup [.int 0]), (1, .tup [.int (-3), .int 1]), (2, .tup [.int (-2), .int 2]), (3, .tup [.int (-1), .int 3])] (eVar 4)) [4]) aNil))) (tgN 3) (bCmp gEq (eCall F_row_square (aCons (eVar 3) aNil)) (eInt 4)) (eVar 3) [3] [some (row q), none, none, none, none, none] φ = .ok (rws P) φ := by
    rw [hP]
    refine lc_ok (prodL (q.map RS)) row (fun w => decide (dot w w = 4)) row (seq_l (call_ok (one_ok (d := .lst ((q.map RS).map tupI)) ?_) (f_lists (fun c hc => ?_) (by rw [List.length_map, h8]; decide) φ))) (size_le (Nat.le_trans (prodL_len (by omega)) (by decide))) fun w hw => ⟨_, rfl, cmp_ok (call_ok (one_ok (v_ok rfl)) (f_square φ (fun x hx => by have := (prodL_bd hw).2 x hx; omega) (by rw [(prodL_bd hw).1, h8]; decide))) rfl (eq_int _ _), fun _ => v_ok rfl⟩
    · refine Eq.trans (b := O.ok (D.lst (q.map fun k => tupI (RS k))) φ) (lcm_ok q D.int (fun k => tupI (RS k)) (seq_l (v_ok rfl)) (size_le (by omega)) fun k hk => ⟨_, rfl, gix_ok (v_ok rfl) (gd_RS (hq k hk).1 (hq k hk).2)⟩) ?_
      rw [List.map_map]
      rfl
    · obtain ⟨k, _, rfl⟩ := List.mem_map.mp hc
      exact RS_len k
  have t1 : bCmp gEq (eCB gSum (aCons (eVar 0) aNil)) (eInt 0) [some (row q), some (rws P), none, none, none, none] φ = .ok (decide (q.sum = 0)) φ := cmp_ok (cb1_ok (v_ok rfl) (gSum_ints q)) rfl (eq_int _ _)
  obtain ⟨ρ', l1, y2, hy2⟩ := for_inv (T := tgN 2) (φ := φ) (e := fun k : Nat => D.int (k : Int)) (B := (sSeq (sMut 1 gExt (eLc (iSeq (eTup (aCons (eUn gNeg (eInt 4)) (aCons (eInt 4) aNil)))) (tgN 5) bYes (eBin gAdd (eBin gAdd (eBin gMul (eLst (aCons (eInt 0) aNil)) (eVar 2)) (eLst (aCons (eVar 5) aNil))) (eBin gMul (eLst (aCons (eInt 0) aNil)) (eBin gSub (eBin gSub (eInt 8) (eInt 1)) (eVar 2)))) [5])) sNil))
    (fun pre ρ => ∃ y2, ρ = [some (row q), some (rws (P ++ pre.flatMap e4c)), y2, none, none, none]) (List.range 8) [] (ρ := [some (row q), some (rws P), none, none, none, none]) ⟨none, by rw [List.flatMap_nil, List.append_nil]⟩ (by
    rintro pre k post ρ hpp ⟨y2, rfl⟩
    have hk : k < 8 := List.mem_range.mp (by rw [show List.range 8 = pre ++ k :: post from hpp]; simp)
    have hpl : pre.length ≤ 8 := by
      have := congrArg List.length hpp
      rw [List.nil_append, List.length_range, List.length_append] at this
      omega
    have hfl : (pre.flatMap e4c).length = 2 * pre.length := by
      clear hpp hpl
      induction pre with
      | nil => rfl
      | cons j pre ih => rw [List.flatMap_cons, List.length_append, ih, List.length_cons]; show 2 + _ = _; omega
    have e5 : eLc (iSeq (eTup (aCons (eUn gNeg (eInt 4)) (aCons (eInt 4) aNil)))) (tgN 5) bYes (eBin gAdd (eBin gAdd (eBin gMul (eLst (aCons (eInt 0) aNil)) (eVar 2)) (eLst (aCons (eVar 5) aNil))) (eBin gMul (eLst (aCons (eInt 0) aNil)) (eBin gSub (eBin gSub (eInt 8) (eInt 1)) (eVar 2)))) [5] [some (row q), some (rws (P ++ pre.flatMap e4c)), some (D.int (k : Int)), none, none, none] φ = .ok (.lst ((e4c k).map row)) φ := by
      refine Eq.trans (b := O.ok (D.lst (([(-4 : Int), 4]).map fun x => row (List.replicate k 0 ++ [x] ++ List.replicate (7 - k) 0))) φ) (lcm_ok ([(-4 : Int), 4]) D.int (fun x => row (List.replicate k 0 ++ [x] ++ List.replicate (7 - k) 0)) rfl (by decide) fun x hx => ⟨_, rfl, ?_⟩) ?_
      · refine bin_ok (bin_ok (bin_ok (d := .lst [.int 0]) (z := row (List.replicate k 0)) rfl (v_ok rfl) (gMul_rep 0 k (by omega))) (lst_ok (one_ok (v_ok rfl)) (size_le (show 1 ≤ 1000000 by decide))) (z := row (List.replicate k 0 ++ [x])) ?_) (bin_ok (d := .lst [.int 0]) (e := .int ((7 - k : Nat) : Int)) (z := row (List.replicate (7 - k) 0)) rfl (bin_ok (d := .int 7) rfl (v_ok rfl) ?_) (gMul_rep 0 (7 - k) (by omega))) ?_
        · refine (gAdd_l (by simp; omega)).trans ?_
          unfold row
          rw [List.map_append]
          rfl
        · show some (D.int (7 - (k : Int))) = _
          rw [show (7 : Int) - (k : Int) = ((7 - k : Nat) : Int) by omega]
        · refine (gAdd_l (by simp; omega)).trans ?_
          unfold row
          rw [List.map_append (l₁ := List.replicate k 0 ++ [x])]
      · unfold e4c
        rw [List.map_map]
        rfl
    refine ⟨_, rfl, _, .inl (seq_one (ext_ok (l := (P ++ pre.flatMap e4c).map row) rfl e5 ?_)), some (D.int (k : Int)), ?_⟩
    · rw [List.length_map, List.length_map, List.length_append, hfl]
      show _ + 2 ≤ _
      exact size_le (by omega)
    · rw [List.flatMap_append, ← List.append_assoc]
      unfold rws
      rw [List.map_append (l₁ := P ++ pre.flatMap e4c), List.flatMap_cons, List.flatMap_nil, List.append_nil]
      rfl)
  rw [List.nil_append, e4c_all] at hy2
  unfold rr
  rw [← hP]
  by_cases s0 : q.sum = 0
  · rw [if_pos s0]
    subst hy2
    exact run_rt (seq_nx (set_ok e1) (seq_nx (if_yes (t1.trans (by rw [decide_eq_true s0])) (seq_one (for_ok (rg1_ok (n := 8) rfl (by decide)) l1))) (seq_rt (ret_ok (v_ok rfl)))))
  · rw [if_neg s0, List.append_nil]
    exact run_rt (seq_nx (set_ok e1) (seq_nx (if_skip (t1.trans (by rw [decide_eq_false s0]))) (seq_rt (ret_ok (v_ok rfl)))))
theorem rr_bd {q w : List Int} (h8 : q.length = 8) (hw : w ∈ rr q) : w.length = 8 := by
  rcases List.mem_append.mp hw with h | h
  · rw [(prodL_bd (List.mem_filter.mp h).1).1, h8]
  · split at h
    · exact (e4_in h).1
    · cases h
theorem f_frame {R : List Int} (h8 : R.length = 8) (φ : Fd) : F_frame_of [row R] φ = .ok (rws (FR R)) φ := by
  have hres : ∀ m : Int, (res m R).length = 8 ∧ ∀ k ∈ res m R, 0 ≤ k ∧ k < 4 := fun m => ⟨by unfold res; rw [List.length_map, h8], fun k hk => by
    obtain ⟨x, _, rfl⟩ := List.mem_map.mp hk
    rw [fm4]
    exact ⟨Int.emod_nonneg _ (by decide), Int.emod_lt_of_pos _ (by decide)⟩⟩
  have arg : ∀ (m : Int) (l : D), eLc (iSeq (eVar 0)) (tgN 3) bYes (eBin gMod (eBin gAdd (eVar 3) (eVar 2)) (eInt 4)) [3] [some (row R), some l, some (.int m), none, none] φ = .ok (row (res m R)) φ := fun m l => by
    refine Eq.trans (b := O.ok (D.lst (R.map fun x => D.int ((x + m).fmod 4))) φ) (lcm_ok R D.int (fun x => D.int ((x + m).fmod 4)) (seq_l (v_ok rfl)) (size_le (by omega)) fun x hx => ⟨_, rfl, bin_ok (bin_ok (v_ok rfl) (v_ok rfl) rfl) rfl (gMod_ok (by decide))⟩) ?_
    unfold row res
    rw [List.map_map]
    rfl
  have l0 := rr_len (q := res 0 R) (by rw [(hres 0).1]; decide)
  have l2 := rr_len (q := res 2 R) (by rw [(hres 2).1]; decide)
  have b1 : (sSeq (sMut 1 gExt (eCall F_rows_with_residues (aCons (eLc (iSeq (eVar 0)) (tgN 3) bYes (eBin gMod (eBin gAdd (eVar 3) (eVar 2)) (eInt 4)) [3]) aNil))) sNil) [some (row R), some (rws []), some (.int 0), none, none] φ = .nx [some (row R), some (rws (rr (res 0 R))), some (.int 0), none, none] φ :=
    seq_one ((ext_ok (l := []) rfl (call_ok (one_ok (arg 0 _)) (f_rr (hres 0).1 (hres 0).2 φ)) (size_le (by rw [List.length_map]; simp; omega))).trans rfl)
  have b2 : (sSeq (sMut 1 gExt (eCall F_rows_with_residues (aCons (eLc (iSeq (eVar 0)) (tgN 3) bYes (eBin gMod (eBin gAdd (eVar 3) (eVar 2)) (eInt 4)) [3]) aNil))) sNil) [some (row R), some (rws (rr (res 0 R))), some (.int 2), none, none] φ = .nx [some (row R), some (rws (rr (res 0 R) ++ rr (res 2 R))), some (.int 2), none, none] φ := by
    refine seq_one ((ext_ok (l := (rr (res 0 R)).map row) rfl (call_ok (one_ok (arg 2 _)) (f_rr (hres 2).1 (hres 2).2 φ)) (size_le (by rw [List.length_map, List.length_map]; omega))).trans ?_)
    unfold rws
    rw [List.map_append]
    rfl
  have lp : forGo (tgN 2) (sSeq (sMut 1 gExt (eCall F_rows_with_residues (aCons (eLc (iSeq (eVar 0)) (tgN 3) bYes (eBin gMod (eBin gAdd (eVar 3) (eVar 2)) (eInt 4)) [3]) aNil))) sNil) [.int 0, .int 2] [some (row R), some (rws []), none, none, none] φ = .nx [some (row R), some (rws (rr (res 0 R) ++ rr (res 2 R))), some (.int 2), none, none] φ :=
    (forGo_nx (ρ1 := [some (row R), some (rws []), some (.int 0), none, none]) rfl b1).trans ((forGo_nx (ρ1 := [some (row R), some (rws (rr (res 0 R))), some (.int 2), none, none]) rfl b2).trans rfl)
  refine run_rt (seq_nx (set_ok (d := rws []) rfl) (seq_nx (for_ok (ds := [.int 0, .int 2]) rfl lp) (seq_rt (ret_ok (cb1_ok (lc_ok (rr (res 0 R) ++ rr (res 2 R)) row (fun a => twb (less R a 1)) row (seq_l (v_ok rfl)) (size_le (by rw [List.length_append]; omega)) fun w hw => ⟨_, rfl, trub_ok (call_ok (one_ok (call_ok (two_ok (v_ok rfl) (v_ok rfl)) (f_less φ (by rw [h8]; decide)))) (f_twice φ ?_)), fun _ => v_ok rfl⟩) ((emb_row.gSorted (by decide) _).trans rfl))))))
  have : w.length = 8 := by
    rcases List.mem_append.mp hw with h | h
    · exact rr_bd (hres 0).1 h
    · exact rr_bd (hres 2).1 h
  exact less_l8 h8 this
/-! ## rests by two -/
def RL (R : List Int) : List (List Int) := RT.filter fun r => twb (less R r 1)
def restD (R : List Int) : D := if twb R then .tup [.str "nothing"] else match (RL R).getLast? with
  | some r => .tup [.str "pair", row r]
  | none => .tup [.str "frame", rws (FR R)]
theorem f_rest {R : List Int} (h8 : R.length = 8) (φ : Fd) : F_rest_by_two [row R] φ = .ok (restD R) φ := by
  have e1 : eLc (iSeq (eCall0 F_all_roots)) (tgN 2) (bTru (eCall F_is_twice (aCons (eCall F_row_less (aCons (eVar 0) (aCons (eVar 2) aNil))) aNil))) (eVar 2) [2] [some (row R), none, none] φ = .ok (rws (RL R)) φ :=
    lc_ok RT row (fun r => twb (less R r 1)) row (seq_l (call0_ok (f_roots φ))) (size_le (by rw [RT_len]; decide)) fun r hr => ⟨_, rfl, trub_ok (call_ok (one_ok (call_ok (two_ok (v_ok rfl) (v_ok rfl)) (f_less φ (by rw [h8]; decide)))) (f_twice φ (less_l8 h8 (RT_l8 hr)))), fun _ => v_ok rfl⟩
  have t0 : bTru (eCall F_is_twice (aCons (eVar 0) aNil)) [some (row R), none, none] φ = .ok (twb R) φ := trub_ok (call_ok (one_ok (v_ok rfl)) (f_twice φ h8))
  unfold restD
  cases hR : twb R with
  | true => rw [if_pos rfl]; exact run_rt (seq_rt (if_yes (t0.trans (by rw [hR])) (seq_rt (ret_ok (tup_ok (one_ok rfl) (size_le (show 1 ≤ 1000000 by decide)))))))
  | false =>
    rw [if_neg (by decide)]
    have t1 : bTru (eVar 1) [some (row R), some (rws (RL R)), none] φ = .ok (!(RL R).isEmpty) φ := tru_ok (v_ok rfl) (by
      show some (!((RL R).map row).isEmpty) = _
      cases RL R <;> rfl)
    cases hl : (RL R).getLast? with
    | some r =>
      have ne : RL R ≠ [] := fun e => by rw [e] at hl; cases hl
      have ix : gIx (rws (RL R)) (.int (-1)) = some (row r) := by
        obtain ⟨l, hl2⟩ := List.getLast?_eq_some_iff.mp hl
        unfold rws
        rw [hl2, List.map_append]
        exact gIx_last (l.map row) (row r)
      refine run_rt (seq_nx (if_skip (t0.trans (by rw [hR]))) (seq_nx (set_ok e1) (seq_rt (if_yes (t1.trans (by
        cases h : RL R with
        | nil => exact absurd h ne
        | cons _ _ => rfl)) (seq_rt (ret_ok (tup_ok (two_ok rfl (bin_ok (v_ok rfl) (un_ok rfl rfl) ix)) (size_le (show 2 ≤ 1000000 by decide)))))))))
    | none =>
      have e : RL R = [] := List.getLast?_eq_none_iff.mp hl
      refine run_rt (seq_nx (if_skip (t0.trans (by rw [hR]))) (seq_nx (set_ok e1) (seq_nx (if_skip (t1.trans (by rw [e]; rfl))) (seq_rt (ret_ok (tup_ok (two_ok rfl (call_ok (one_ok (v_ok rfl)) (f_frame h8 φ))) (size_le (show 2 ≤ 1000000 by decide))))))))
theorem f_sum2 {R : List Int} (φ : Fd) (hb : ∀ x ∈ R, x.natAbs ≤ 1000000) (h8 : R.length = 8) : F_sum_by_two [row R] φ = .ok (.int (((dot R R).fdiv 2).fmod 2)) φ :=
  run_ret (bin_ok (bin_ok (call_ok (one_ok (v_ok rfl)) (f_square φ hb (by rw [h8]; decide))) rfl (gDiv_ok (by decide) (by decide))) rfl (gMod_ok (by decide)))
end Pf

set_option Elab.async false
set_option linter.all false
set_option maxRecDepth 100000
set_option maxHeartbeats 4000000
namespace Pf
open PySem PySem.Spec PyProof.Rows L2

/-! ## the law's own judge -/
theorem lc_row {I : SA} {T : Tg} {tst : SB} {elt : SX} {vs : List Nat} {ρ : En} {φ φ1 : Fd} (xs : List Int) (p : Int → Bool) (hI : I ρ φ1 = .ok (xs.map D.int) φ) (hl : xs.length ≤ sizeLine)
    (h : ∀ x ∈ xs, ∃ ρ1, T (.int x) (wipeE ρ vs) = some ρ1 ∧ tst ρ1 φ = .ok (p x) φ ∧ (p x = true → elt ρ1 φ = .ok (.int x) φ)) : eLc I T tst elt vs ρ φ1 = .ok (row (xs.filter p)) φ := lc_ok xs D.int p D.int hI hl h
theorem f_ltwice {t : List Int} (φ : Fd) (hl : t.length = 8) : F__law_is_twice [row t] φ = .ok (.bl (twb t)) φ := by
  have e1 : bCmp gGtA (eCB gLen (aCons (eLc (iSeq (eVar 0)) (tgN 2) (bCmp gNe (eBin gMod (eCB gInt (aCons (eVar 2) aNil)) (eInt 2)) (eInt 0)) (eVar 2) [2]) aNil)) (eInt 0) [some (row t), none, none] φ = .ok (t.any fun a => !decide (a.fmod 2 = 0)) φ := by
    refine cmp_ok (len_ok (lc_row t (fun a => !decide (a.fmod 2 = 0)) (seq_l (v_ok rfl)) (size_le (by omega)) fun a _ => ⟨_, rfl, cmp_ok (bin_ok (cb1_ok (v_ok rfl) rfl) rfl (gMod_ok (by decide))) rfl (ne_int _ _), fun _ => v_ok rfl⟩)) rfl ?_
    show some (D.bl (decide ((0 : Int) < (((t.filter _).map D.int).length : Int)))) = _
    congr 2
    rw [List.length_map, Bool.eq_iff_iff, decide_eq_true_eq, List.any_eq_true]
    constructor
    · intro h
      obtain ⟨a, ha⟩ := List.exists_mem_of_length_pos (Int.ofNat_lt.mp h)
      rw [List.mem_filter] at ha
      exact ⟨a, ha⟩
    · rintro ⟨a, h1, h2⟩
      exact Int.ofNat_lt.mpr (List.length_pos_of_mem (List.mem_filter.mpr ⟨h1, h2⟩))
  have e2 : eLc (iSeq (eVar 0)) (tgN 2) bYes (eBin gDiv (eVar 2) (eInt 2)) [2] [some (row t), none, none] φ = .ok (row (half t)) φ :=
    Eq.trans (b := O.ok (D.lst (t.map fun a => D.int (a.fdiv 2))) φ) (lcm_ok t D.int (fun a => D.int (a.fdiv 2)) (seq_l (v_ok rfl)) (size_le (by omega)) fun a _ => ⟨_, rfl, bin_ok (v_ok rfl) rfl (gDiv_ok (by decide) (by decide))⟩) (by rw [half_ints]; rfl)
  have hh : (half t).length = 8 := by unfold half; rw [List.length_map, hl]
  have hd : gIx (row (half t)) (.int 0) = some (.int ((half t).headD 0)) := by
    match half t, hh with
    | a :: t, _ => exact gIx_row (k := 0) rfl
  have e3 : eBin gEq (eCB gLen (aCons (eLc (iSeq (eVar 1)) (tgN 2) (bCmp gNe (eBin gMod (eCB gInt (aCons (eBin gSub (eVar 2) (eBin gIx (eVar 1) (eInt 0))) aNil)) (eInt 2)) (eInt 0)) (eVar 2) [2]) aNil)) (eInt 0) [some (row t), some (row (half t)), none] φ = .ok (.bl ((half t).all fun a => decide ((a - (half t).headD 0).fmod 2 = 0))) φ := by
    refine bin_ok (len_ok (lc_row (half t) (fun a => !decide ((a - (half t).headD 0).fmod 2 = 0)) (seq_l (v_ok rfl)) (size_le (by omega)) fun a _ => ⟨_, rfl, cmp_ok (bin_ok (cb1_ok (bin_ok (v_ok rfl) (bin_ok (v_ok rfl) rfl hd) rfl) rfl) rfl (gMod_ok (by decide))) rfl (ne_int _ _), fun _ => v_ok rfl⟩)) rfl ((eq_int _ _).trans ?_)
    congr 2
    rw [List.length_map, Bool.eq_iff_iff, decide_eq_true_eq, List.all_eq_true]
    constructor
    · intro h a ha
      have h0 : ((half t).filter fun a => !decide ((a - (half t).headD 0).fmod 2 = 0)) = [] := List.length_eq_zero_iff.mp (by omega)
      rw [List.filter_eq_nil_iff] at h0
      simpa using h0 a ha
    · intro h
      have h0 : ((half t).filter fun a => !decide ((a - (half t).headD 0).fmod 2 = 0)) = [] := by
        rw [List.filter_eq_nil_iff]
        intro a ha
        simpa using h a ha
      rw [h0]
      rfl
  have e4 : eBin gEq (eBin gMod (eCB gInt (aCons (eCB gSum (aCons (eVar 1) aNil)) aNil)) (eInt 4)) (eInt 0) [some (row t), some (row (half t)), none] φ = .ok (.bl (decide ((half t).sum.fmod 4 = 0))) φ := bin_ok (bin_ok (cb1_ok (cb1_ok (v_ok rfl) (gSum_ints _)) rfl) rfl (gMod_ok (by decide))) rfl (eq_int _ _)
  unfold twb
  by_cases q : t.any (fun a => !decide (a.fmod 2 = 0)) = true
  · have : t.all (fun a => a.fmod 2 == 0) = false := by
      rw [List.any_eq_true] at q
      obtain ⟨a, ha, hq⟩ := q
      rw [List.all_eq_false]
      exact ⟨a, ha, by simpa using hq⟩
    rw [this]
    exact run_rt (seq_rt (if_yes (e1.trans (by rw [q])) (seq_rt (ret_ok rfl))))
  · rw [Bool.not_eq_true] at q
    have ha : t.all (fun a => a.fmod 2 == 0) = true := by
      rw [List.any_eq_false] at q
      rw [List.all_eq_true]
      intro a ha
      simpa using q a ha
    rw [ha, Bool.true_and]
    have hL : decide (Lat (half t)) = ((half t).all (fun a => decide ((a - (half t).headD 0).fmod 2 = 0)) && decide ((half t).sum.fmod 4 = 0)) := by
      rw [Bool.eq_iff_iff, Bool.and_eq_true, decide_eq_true_eq, decide_eq_true_eq, List.all_eq_true]
      unfold Lat
      rw [fm4]
      constructor
      · rintro ⟨_, h1, h2⟩
        exact ⟨fun a ha => by rw [decide_eq_true_eq, fm2']; exact h1 a ha, h2⟩
      · rintro ⟨h1, h2⟩
        exact ⟨hh, fun a ha => by have := h1 a ha; rw [decide_eq_true_eq, fm2'] at this; exact this, h2⟩
    rw [hL]
    exact run_rt (seq_nx (if_skip (e1.trans (by rw [q]))) (seq_nx (set_ok e2) (seq_rt (ret_ok (eand_val e3 e4)))))
/-! ## what is due -/
def dueD (R : List Int) : D := if twb R then .tup [.str "nothing"] else match (RL R).getLast? with
  | some r => .tup [.str "pair", row r]
  | none => .tup [.str "frame", rws (alikeR R)]
theorem FO_small : (FO.all fun x => x.all fun a => decide (a.natAbs ≤ 4)) = true := by decide +kernel
theorem FO_bd {x : List Int} (h : x ∈ FO) : ∀ a ∈ x, a.natAbs ≤ 4 := fun a ha => by
  have := List.all_eq_true.mp (List.all_eq_true.mp FO_small x h) a ha
  simpa using this
theorem FO_rw {x : List Int} (h : x ∈ FO) : Rw x := ⟨(FO_mem.mp h).1.1, fun a ha => by have := FO_bd h a ha; omega⟩
theorem f_ldue {R : List Int} (hR : Rw R) (φ : Fd) : F__law_due [rws RT, rws FO, row R] φ = .ok (dueD R) φ := by
  have h8 := hR.1
  have t0 : bTru (eCall F__law_is_twice (aCons (eVar 2) aNil)) [some (rws RT), some (rws FO), some (row R), none, none, none] φ = .ok (twb R) φ := trub_ok (call_ok (one_ok (v_ok rfl)) (f_ltwice φ h8))
  have FOrw : ∀ x ∈ FO, Rw x := fun x hx => FO_rw hx
  have e1 : eLc (iSeq (eVar 0)) (tgN 4) (bTru (eCall F__law_is_twice (aCons (eCall F__law_less (aCons (eVar 2) (aCons (eVar 4) (aCons (eInt 1) aNil)))) aNil))) (eVar 4) [4] [some (rws RT), some (rws FO), some (row R), none, none, none] φ = .ok (rws (RL R)) φ :=
    lc_ok RT row (fun r => twb (less R r 1)) row (seq_l (v_ok rfl)) (size_le (by rw [RT_len]; decide)) fun r hr => ⟨_, rfl, trub_ok (call_ok (one_ok (call_ok (cons_ok (v_ok rfl) (two_ok (v_ok rfl) rfl)) (f_lless φ hR (RT_rw hr) (by decide)))) (f_ltwice φ (less_l8 h8 (RT_l8 hr)))), fun _ => v_ok rfl⟩
  have e2 : eLc (iSeq (eVar 1)) (tgN 5) (bTru (eCall F__law_is_twice (aCons (eCall F__law_less (aCons (eVar 2) (aCons (eVar 5) (aCons (eInt 1) aNil)))) aNil))) (eVar 5) [5] [some (rws RT), some (rws FO), some (row R), some (rws (RL R)), none, none] φ = .ok (rws (alikeR R)) φ :=
    lc_ok FO row (fun r => twb (less R r 1)) row (seq_l (v_ok rfl)) (size_le (by rw [FO_len]; decide)) fun r hr => ⟨_, rfl, trub_ok (call_ok (one_ok (call_ok (cons_ok (v_ok rfl) (two_ok (v_ok rfl) rfl)) (f_lless φ hR (FOrw r hr) (by decide)))) (f_ltwice φ (less_l8 h8 (FOrw r hr).1))), fun _ => v_ok rfl⟩
  have t1 : bCmp gGtA (eCB gLen (aCons (eVar 3) aNil)) (eInt 0) [some (rws RT), some (rws FO), some (row R), some (rws (RL R)), none, none] φ = .ok (!(RL R).isEmpty) φ := by
    refine cmp_ok (len_ok (v_ok rfl)) rfl ?_
    show some (D.bl (decide ((0 : Int) < (((RL R).map row).length : Int)))) = _
    rw [List.length_map]
    cases RL R with
    | nil => rfl
    | cons a l =>
      have : (0 : Int) < ((a :: l).length : Int) := by rw [List.length_cons]; omega
      rw [decide_eq_true this]
      rfl
  unfold dueD
  cases hR2 : twb R with
  | true => rw [if_pos rfl]; exact run_rt (seq_rt (if_yes (t0.trans (by rw [hR2])) (seq_rt (ret_ok (tup_ok (one_ok rfl) (size_le (show 1 ≤ 1000000 by decide)))))))
  | false =>
    rw [if_neg (by decide)]
    cases hl : (RL R).getLast? with
    | some r =>
      have ne : RL R ≠ [] := fun e => by rw [e] at hl; cases hl
      have ix : gIx (rws (RL R)) (.int (-1)) = some (row r) := by
        obtain ⟨l, hl2⟩ := List.getLast?_eq_some_iff.mp hl
        unfold rws
        rw [hl2, List.map_append]
        exact gIx_last (l.map row) (row r)
      refine run_rt (seq_nx (if_skip (t0.trans (by rw [hR2]))) (seq_nx (set_ok e1) (seq_rt (if_yes (t1.trans (by
        cases h : RL R with
        | nil => exact absurd h ne
        | cons _ _ => rfl)) (seq_rt (ret_ok (tup_ok (two_ok rfl (bin_ok (v_ok rfl) (un_ok rfl rfl) ix)) (size_le (show 2 ≤ 1000000 by decide)))))))))
    | none =>
      have e : RL R = [] := List.getLast?_eq_none_iff.mp hl
      refine run_rt (seq_nx (if_skip (t0.trans (by rw [hR2]))) (seq_nx (set_ok e1) (seq_nx (if_skip (t1.trans (by rw [e]; rfl))) (seq_rt (ret_ok (tup_ok (two_ok rfl e2) (size_le (show 2 ≤ 1000000 by decide))))))))
theorem due_rest {R : List Int} (hR : Lat R) : dueD R = restD R := by
  unfold dueD restD
  rw [FR_FO hR]
  all_goals (cases (RL R).getLast? <;> rfl)
end Pf

set_option Elab.async false
set_option linter.all false
set_option maxRecDepth 100000
set_option maxHeartbeats 4000000
namespace Pf
open PySem PySem.Spec PyProof.Rows L2

theorem sl_ok1 {ρ : En} {φ : Fd} {A B : SX} {l : List D} {k : Nat} (ha : A ρ φ = .ok (.lst l) φ) (hb : B ρ φ = .ok (.int (k : Int)) φ) : eSl A oNone (oSome B) ρ φ = .ok (.lst (l.take k)) φ := by
  unfold eSl oNone oSome
  rw [ha]
  show ((B ρ φ).bind _).bind _ = _
  rw [hb]
  show ofO (gSl (.lst l) none (some (k : Int))) φ = _
  rw [sl_take]
  rfl
theorem sl_ok2 {ρ : En} {φ : Fd} {A B : SX} {l : List D} {k : Nat} (ha : A ρ φ = .ok (.lst l) φ) (hb : B ρ φ = .ok (.int (k : Int)) φ) : eSl A (oSome B) oNone ρ φ = .ok (.lst (l.drop k)) φ := by
  unfold eSl oNone oSome
  rw [ha]
  show ((B ρ φ).bind _).bind _ = _
  rw [hb]
  show ofO (gSl (.lst l) (some (k : Int)) none) φ = _
  rw [sl_drop]
  rfl

/-! ## the law's own rows of square 4 -/
theorem put_ok {i : Nat} {l : List D} {ρ : En} {φ : Fd} {A B : SX} {d : D} {k : Nat} (hi : ρ[i]? = some (some (.lst l))) (ha : A ρ φ = .ok d φ) (hb : B ρ φ = .ok (.int (k : Int)) φ) (hk : k < l.length) : sPut i A B ρ φ = .nx (ρ.set i (some (.lst (l.set k d)))) φ := by
  unfold sPut
  rw [ha]
  show (match ρ[i]? with
    | some (some (.lst l)) => (B ρ φ).toR ρ fun k φ2 => (match k with
      | .int z => (match ixN l.length z with | some j => .nx (ρ.set i (some (.lst (l.set j d)))) φ2 | none => .bad)
      | _ => .bad)
    | _ => R.bad) = _
  rw [hi]
  show (B ρ φ).toR ρ _ = _
  rw [hb]
  show (match ixN l.length (k : Int) with | some j => R.nx (ρ.set i (some (.lst (l.set j d)))) φ | none => .bad) = _
  have : ixN l.length (k : Int) = some k := by
    unfold ixN
    rw [if_pos (by omega), if_pos (by omega)]
    rfl
  rw [this]
def bv (b k : Nat) : Int := ((b / 2 ^ k % 2 : Nat) : Int)
theorem bv_all : ((List.range 256).all fun b => (List.range 8).all fun k => decide (Builtin.bitAnd ((b : Int) / 2 ^ k) 1 = bv b k)) = true := by decide +kernel
theorem bv_ok {ρ : En} {φ : Fd} {A B : SX} {b k : Nat} (hb : b < 256) (hk : k < 8) (h1 : A ρ φ = .ok (.int (b : Int)) φ) (h2 : B ρ φ = .ok (.int (k : Int)) φ) : eBin gAnd (eBin gShr A B) (eInt 1) ρ φ = .ok (.int (bv b k)) φ := by
  have h := List.all_eq_true.mp (List.all_eq_true.mp bv_all b (List.mem_range.mpr hb)) k (List.mem_range.mpr hk)
  rw [decide_eq_true_eq] at h
  refine bin_ok (z := .int (bv b k)) (bin_ok (z := .int ((b : Int) / 2 ^ k)) h1 h2 ?_) rfl ?_
  · show (if decide ((0 : Int) ≤ (k : Int)) = true then some (D.int ((b : Int) / 2 ^ (k : Int).toNat)) else none) = _
    rw [if_pos (by rw [decide_eq_true_eq]; omega), Int.toNat_natCast]
  · show some (D.int (Builtin.bitAnd ((b : Int) / 2 ^ k) 1)) = _
    rw [h]
abbrev lb__law_fours_1 : SS := (sSeq (sSet 2 (eLc (iRg1 (aCons (eInt 8) aNil)) (tgN 8) (bCmp gEq (eBin gAnd (eBin gShr (eVar 1) (eVar 8)) (eInt 1)) (eInt 1)) (eVar 8) [8])) (sSeq (sIf (bCmp gEq (eCB gLen (aCons (eVar 2) aNil)) (eInt 4)) (sSeq (sFor (iRg1 (aCons (eInt 16) aNil)) (tgN 3) (sSeq (sSet 4 (eBin gMul (eLst (aCons (eInt 0) aNil)) (eInt 8))) (sSeq (sFor (iRg1 (aCons (eInt 4) aNil)) (tgN 5) (sSeq (sSet 6 (eBin gIx (eVar 2) (eVar 5))) (sSeq (sPut 4 (eBin gSub (eInt 2) (eBin gMul (eInt 4) (eBin gAnd (eBin gShr (eVar 3) (eVar 5)) (eInt 1)))) (eVar 6)) sNil))) (sSeq (sMut 0 gApp (eVar 4)) sNil)))) sNil) sNil) (sSeq (sSet 7 (eLc (iRg1 (aCons (eInt 8) aNil)) (tgN 8) bYes (eBin gSub (eInt 1) (eBin gMul (eInt 2) (eBin gAnd (eBin gShr (eVar 1) (eVar 8)) (eInt 1)))) [8])) (sSeq (sFor (iRg1 (aCons (eInt 8) aNil)) (tgN 6) (sSeq (sSet 4 (eBin gAdd (eBin gAdd (eSl (eVar 7) oNone (oSome (eVar 6))) (eLst (aCons (eBin gMul (eInt 3) (eBin gIx (eVar 7) (eVar 6))) aNil))) (eSl (eVar 7) (oSome (eBin gAdd (eVar 6) (eInt 1))) oNone))) (sSeq (sIf (bCmp gEq (eBin gMod (eCB gInt (aCons (eCB gSum (aCons (eVar 4) aNil)) aNil)) (eInt 4)) (eInt 0)) (sSeq (sMut 0 gApp (eVar 4)) sNil) sNil) sNil))) sNil))))
abbrev lb__law_fours_2 : SS := (sSeq (sSet 4 (eBin gMul (eLst (aCons (eInt 0) aNil)) (eInt 8))) (sSeq (sFor (iRg1 (aCons (eInt 4) aNil)) (tgN 5) (sSeq (sSet 6 (eBin gIx (eVar 2) (eVar 5))) (sSeq (sPut 4 (eBin gSub (eInt 2) (eBin gMul (eInt 4) (eBin gAnd (eBin gShr (eVar 3) (eVar 5)) (eInt 1)))) (eVar 6)) sNil))) (sSeq (sMut 0 gApp (eVar 4)) sNil)))
abbrev lb__law_fours_3 : SS := (sSeq (sSet 6 (eBin gIx (eVar 2) (eVar 5))) (sSeq (sPut 4 (eBin gSub (eInt 2) (eBin gMul (eInt 4) (eBin gAnd (eBin gShr (eVar 3) (eVar 5)) (eInt 1)))) (eVar 6)) sNil))
abbrev lb__law_fours_4 : SS := (sSeq (sSet 4 (eBin gAdd (eBin gAdd (eSl (eVar 7) oNone (oSome (eVar 6))) (eLst (aCons (eBin gMul (eInt 3) (eBin gIx (eVar 7) (eVar 6))) aNil))) (eSl (eVar 7) (oSome (eBin gAdd (eVar 6) (eInt 1))) oNone))) (sSeq (sIf (bCmp gEq (eBin gMod (eCB gInt (aCons (eCB gSum (aCons (eVar 4) aNil)) aNil)) (eInt 4)) (eInt 0)) (sSeq (sMut 0 gApp (eVar 4)) sNil) sNil) sNil))
abbrev lb__law_fours_5 : SS := (sSeq (sMut 0 gApp (eLc (iRg1 (aCons (eInt 8) aNil)) (tgN 8) bYes (eBin gMul (eInt 4) (eCB gInt (aCons (eBin gEq (eVar 8) (eVar 6)) aNil))) [8])) (sSeq (sMut 0 gApp (eLc (iRg1 (aCons (eInt 8) aNil)) (tgN 8) bYes (eBin gSub (eInt 0) (eBin gMul (eInt 4) (eCB gInt (aCons (eBin gEq (eVar 8) (eVar 6)) aNil)))) [8])) sNil))
def pl (b : Nat) : List Nat := (List.range 8).filter fun k => decide (bv b k = 1)
def fr (p : List Nat) (s : Nat) (js : List Nat) : List Int := js.foldl (fun r j => r.set (p.getD j 0) (2 - 4 * bv s j)) z8
def ons (b : Nat) : List Int := (List.range 8).map fun k => 1 - 2 * bv b k
def orow (b k : Nat) : List Int := (ons b).take k ++ [3 * (ons b).getD k 0] ++ (ons b).drop (k + 1)
def lfA (b : Nat) : List (List Int) := if (pl b).length = 4 then (List.range 16).flatMap fun s => [fr (pl b) s (List.range 4)] else []
def lfB (b : Nat) : List (List Int) := (List.range 8).flatMap fun k => if (orow b k).sum.fmod 4 = 0 then [orow b k] else []
def lf4 (b : Nat) : List (List Int) := lfA b ++ lfB b
def e4p (k : Nat) : List (List Int) := [(List.range 8).map fun j => 4 * (if j = k then 1 else 0), (List.range 8).map fun j => 0 - 4 * (if j = k then 1 else 0)]
def LF : List (List Int) := (List.range 256).flatMap lf4 ++ (List.range 8).flatMap e4p
theorem fr_len (p : List Nat) (s : Nat) (js : List Nat) : (fr p s js).length = 8 := by
  unfold fr
  have : ∀ (js : List Nat) (r : List Int), r.length = 8 → (js.foldl (fun r j => r.set (p.getD j 0) (2 - 4 * bv s j)) r).length = 8 := by
    intro js
    induction js with
    | nil => exact fun r h => h
    | cons j js ih => exact fun r h => ih _ (by rw [List.length_set]; exact h)
  exact this js z8 rfl
theorem ons_len (b : Nat) : (ons b).length = 8 := by unfold ons; rw [List.length_map]; rfl
theorem pl_lt {b k : Nat} (h : k ∈ pl b) : k < 8 := List.mem_range.mp (List.mem_filter.mp h).1
theorem row_set (r : List Int) (k : Nat) (x : Int) : (D.lst ((r.map D.int).set k (D.int x))) = row (r.set k x) := by unfold row; rw [List.map_set]
/-- one row by its signs -/
theorem f3_loop {b s : Nat} (hb : b < 256) (hs : s < 16) (h4 : (pl b).length = 4) (φ : Fd) {y0 y1 y5 y6 y7 : Option D} :
    ∃ z5 z6, forGo (tgN 5) lb__law_fours_3 ((List.range 4).map fun (k : Nat) => D.int k) [y0, y1, some (nrow (pl b)), some (.int (s : Int)), some (row z8), y5, y6, y7, none] φ = .nx [y0, y1, some (nrow (pl b)), some (.int (s : Int)), some (row (fr (pl b) s (List.range 4))), z5, z6, y7, none] φ := by
  obtain ⟨ρ', l1, z5, z6, rfl⟩ := for_inv (T := tgN 5) (φ := φ) (e := fun (k : Nat) => D.int (k : Int)) (B := lb__law_fours_3)
    (fun pre ρ => ∃ z5 z6, ρ = [y0, y1, some (nrow (pl b)), some (.int (s : Int)), some (row (fr (pl b) s pre)), z5, z6, y7, none]) (List.range 4) [] (ρ := [y0, y1, some (nrow (pl b)), some (.int (s : Int)), some (row z8), y5, y6, y7, none]) ⟨y5, y6, rfl⟩ (by
    rintro pre j post ρ hpp ⟨z5, z6, rfl⟩
    have hj : j < 4 := List.mem_range.mp (by rw [show List.range 4 = pre ++ j :: post from hpp]; simp)
    have hjp : j < (pl b).length := by omega
    have hg : (pl b)[j]? = some ((pl b).getD j 0) := by rw [List.getD_eq_getElem?_getD, List.getElem?_eq_getElem hjp]; rfl
    have hlt : (pl b).getD j 0 < 8 := pl_lt (List.mem_of_getElem? hg)
    have ix : gIx (nrow (pl b)) (.int (j : Int)) = some (.int (((pl b).getD j 0 : Nat) : Int)) := by
      unfold nrow
      exact gIx_row (by rw [List.getElem?_map, hg]; rfl)
    refine ⟨_, rfl, _, .inl (seq_nx (set_ok (bin_ok (v_ok rfl) (v_ok rfl) ix)) (seq_one (put_ok (l := (fr (pl b) s pre).map D.int) (d := .int (2 - 4 * bv s j)) rfl (bin_ok rfl (bin_ok rfl (bv_ok (b := s) (by omega) (by omega) (v_ok rfl) (v_ok rfl)) (gMul_ok' (by decide))) rfl) (v_ok rfl) (by rw [List.length_map, fr_len]; exact hlt)))), some (.int (j : Int)), some (.int (((pl b).getD j 0 : Nat) : Int)), ?_⟩
    rw [row_set]
    unfold fr
    rw [List.foldl_append]
    rfl)
  exact ⟨z5, z6, l1⟩
theorem f2_loop {b : Nat} (hb : b < 256) (h4 : (pl b).length = 4) (φ : Fd) (acc : List (List Int)) (hl : acc.length + (lfA b).length ≤ 100000) {y1 y3 y4 y5 y6 y7 : Option D} :
    ∃ z3 z4 z5 z6, forGo (tgN 3) lb__law_fours_2 ((List.range 16).map fun (k : Nat) => D.int k) [some (rws acc), y1, some (nrow (pl b)), y3, y4, y5, y6, y7, none] φ = .nx [some (rws (acc ++ lfA b)), y1, some (nrow (pl b)), z3, z4, z5, z6, y7, none] φ := by
  unfold lfA at hl ⊢
  rw [if_pos h4] at hl ⊢
  obtain ⟨ρ', l1, z3, z4, z5, z6, rfl⟩ := for_app (T := tgN 3) (φ := φ) (e := fun (k : Nat) => D.int (k : Int)) (B := lb__law_fours_2) (fun s => [fr (pl b) s (List.range 4)])
    (fun acc ρ => ∃ z3 z4 z5 z6, ρ = [some (rws acc), y1, some (nrow (pl b)), z3, z4, z5, z6, y7, none]) (List.range 16) acc (ρ := [some (rws acc), y1, some (nrow (pl b)), y3, y4, y5, y6, y7, none]) ⟨y3, y4, y5, y6, rfl⟩ hl (by
    rintro s hs acc ρ hl ⟨z3, z4, z5, z6, rfl⟩
    obtain ⟨w5, w6, l3⟩ := f3_loop (y0 := some (rws acc)) (y1 := y1) (y5 := z5) (y6 := z6) (y7 := y7) hb (List.mem_range.mp hs) h4 φ
    refine ⟨_, rfl, _, .inl (seq_nx (set_ok (d := row z8) rfl) (seq_nx (for_ok (rg1_ok (n := 4) rfl (by decide)) l3) (seq_one (app_ok (l := acc.map row) rfl (v_ok rfl) (by
      rw [List.length_map]
      have := size_le (show acc.length + 1 ≤ 1000000 by simp at hl; omega)
      omega))))), some (.int (s : Int)), some (row (fr (pl b) s (List.range 4))), w5, w6, ?_⟩
    unfold rws
    rw [List.map_append]
    rfl)
  exact ⟨z3, z4, z5, z6, l1⟩
theorem f4_loop {b : Nat} (φ : Fd) (acc : List (List Int)) (hl : acc.length + (lfB b).length ≤ 100000) {y1 y2 y3 y4 y5 y6 : Option D} :
    ∃ z4 z6, forGo (tgN 6) lb__law_fours_4 ((List.range 8).map fun (k : Nat) => D.int k) [some (rws acc), y1, y2, y3, y4, y5, y6, some (row (ons b)), none] φ = .nx [some (rws (acc ++ lfB b)), y1, y2, y3, z4, y5, z6, some (row (ons b)), none] φ := by
  unfold lfB at hl ⊢
  obtain ⟨ρ', l1, z4, z6, rfl⟩ := for_app (T := tgN 6) (φ := φ) (e := fun (k : Nat) => D.int (k : Int)) (B := lb__law_fours_4) (fun k => if (orow b k).sum.fmod 4 = 0 then [orow b k] else [])
    (fun acc ρ => ∃ z4 z6, ρ = [some (rws acc), y1, y2, y3, z4, y5, z6, some (row (ons b)), none]) (List.range 8) acc (ρ := [some (rws acc), y1, y2, y3, y4, y5, y6, some (row (ons b)), none]) ⟨y4, y6, rfl⟩ hl (by
    rintro k hk acc ρ hl ⟨z4, z6, rfl⟩
    have hk8 := List.mem_range.mp hk
    have hg : (ons b)[k]? = some ((ons b).getD k 0) := by rw [List.getD_eq_getElem?_getD, List.getElem?_eq_getElem (by rw [ons_len]; exact hk8)]; rfl
    have hbd : ((ons b).getD k 0).natAbs ≤ 3 := by
      have := List.mem_of_getElem? hg
      unfold ons at this
      obtain ⟨j, _, e⟩ := List.mem_map.mp this
      rw [← ons] at e
      have h2 : bv b j = 0 ∨ bv b j = 1 := by unfold bv; omega
      rcases h2 with h2 | h2 <;> rw [h2] at e <;> omega
    have e1 : (eBin gAdd (eBin gAdd (eSl (eVar 7) oNone (oSome (eVar 6))) (eLst (aCons (eBin gMul (eInt 3) (eBin gIx (eVar 7) (eVar 6))) aNil))) (eSl (eVar 7) (oSome (eBin gAdd (eVar 6) (eInt 1))) oNone)) [some (rws acc), y1, y2, y3, z4, y5, some (.int (k : Int)), some (row (ons b)), none] φ = .ok (row (orow b k)) φ := by
      refine bin_ok (bin_ok (sl_ok1 (v_ok rfl) (v_ok rfl)) (lst_ok (one_ok (bin_ok (z := .int (3 * (ons b).getD k 0)) rfl (bin_ok (v_ok rfl) (v_ok rfl) (gIx_row hg)) (gMul_ok' (by decide)))) (size_le (show 1 ≤ 1000000 by decide))) (z := .lst (((ons b).map D.int).take k ++ [.int (3 * (ons b).getD k 0)])) (gAdd_l (by rw [List.length_take, List.length_map, ons_len]; show min k 8 + 1 ≤ 1000000; omega))) (sl_ok2 (k := k + 1) (v_ok rfl) (bin_ok (v_ok rfl) rfl (by show some (D.int ((k : Int) + 1)) = _; rw [Int.natCast_add]; rfl))) ?_
      refine (gAdd_l (by rw [List.length_append, List.length_take, List.length_drop, List.length_map, ons_len]; show min k 8 + 1 + (8 - (k + 1)) ≤ 1000000; omega)).trans ?_
      unfold row orow
      rw [List.map_append, List.map_append, List.map_take, List.map_drop]
      rfl
    have t1 : (bCmp gEq (eBin gMod (eCB gInt (aCons (eCB gSum (aCons (eVar 4) aNil)) aNil)) (eInt 4)) (eInt 0)) [some (rws acc), y1, y2, y3, some (row (orow b k)), y5, some (.int (k : Int)), some (row (ons b)), none] φ = .ok (decide ((orow b k).sum.fmod 4 = 0)) φ := cmp_ok (bin_ok (cb1_ok (cb1_ok (v_ok rfl) (gSum_ints _)) rfl) rfl (gMod_ok (by decide))) rfl (eq_int _ _)
    by_cases q : (orow b k).sum.fmod 4 = 0
    · rw [if_pos q] at hl ⊢
      refine ⟨_, rfl, _, .inl (seq_nx (set_ok e1) (seq_one (if_yes (t1.trans (by rw [decide_eq_true q])) (seq_one (app_ok (l := acc.map row) rfl (v_ok rfl) (by
        rw [List.length_map]
        have := size_le (show acc.length + 1 ≤ 1000000 by simp at hl; omega)
        omega)))))), some (row (orow b k)), some (.int (k : Int)), ?_⟩
      unfold rws
      rw [List.map_append]
      rfl
    · rw [if_neg q, List.append_nil]
      exact ⟨_, rfl, _, .inl (seq_nx (set_ok e1) (seq_one (if_skip (t1.trans (by rw [decide_eq_false q]))))), some (row (orow b k)), some (.int (k : Int)), rfl⟩)
  exact ⟨z4, z6, l1⟩
def LFn : List Nat := [357913941, 928339285, 896882005, 894915925, 894793045, 894785365, 894784885, 894784855, 1934972245, 1364546901, 1400198485, 1398232405, 1398109525, 1398101845, 1398101365, 1398101335, 1966429525, 1463113045, 1427461461, 1429689685, 1429566805, 1429559125, 1429558645, 1429558615, 322262357, 825578837, 857036117, 859264341, 859141461, 859133781, 859133301, 859133271, 1968395605, 1465079125, 1433621845, 1431393621, 1431532885, 1431525205, 1431524725, 1431524695, 324228437, 827544917, 863196501, 860968277, 861107541, 861099861, 861099381, 861099351, 355685717, 926111061, 890459477, 892425557, 892564821, 892557141, 892556661, 892556631, 1932744021, 1362318677, 1393775957, 1395742037, 1395881301, 1395873621, 1395873141, 1395873111, 1717978180, 644236356, 1650869316, 577127492, 1713783876, 640042052, 1646675012, 572933188, 1717716036, 643974212, 1650607172, 576865348, 1713521732, 639779908, 1646412868, 572671044, 1968518485, 1465202005, 1433744725, 1431778645, 1431639381, 1431648085, 1431647605, 1431647575, 324351317, 827667797, 863319381, 861353301, 861214037, 861222741, 861222261, 861222231, 355808597, 926233941, 890582357, 892810581, 892671317, 892680021, 892679541, 892679511, 1932866901, 1362441557, 1393898837, 1396127061, 1395987797, 1395996501, 1395996021, 1395995991, 1717855300, 644113476, 1650746436, 577004612, 1713660996, 639919172, 1646552132, 572810308, 1717838916, 644097092, 1650730052, 576988228, 1713644612, 639902788, 1646535748, 572793924, 357774677, 928200021, 896742741, 894514517, 894637397, 894646101, 894645621, 894645591, 1934832981, 1364407637, 1400059221, 1397830997, 1397953877, 1397962581, 1397962101, 1397962071, 1715889220, 642147396, 1648780356, 575038532, 1715627076, 641885252, 1648518212, 574776388, 1715872836, 642131012, 1648763972, 575022148, 1715610692, 641868868, 1648501828, 574760004, 1966290261, 1462973781, 1427322197, 1429288277, 1429411157, 1429419861, 1429419381, 1429419351, 1684431940, 610690116, 1680237636, 606495812, 1684169796, 610427972, 1679975492, 606233668, 1684415556, 610673732, 1680221252, 606479428, 1684153412, 610411588, 1679959108, 606217284, 1181115460, 1114006596, 1176921156, 1109812292, 1180853316, 1113744452, 1176659012, 1109550148, 1181099076, 1113990212, 1176904772, 1109795908, 1180836932, 1113728068, 1176642628, 1109533764, 322123093, 825439573, 856896853, 858862933, 858985813, 858994517, 858994037, 858994007, 1968526165, 1465209685, 1433752405, 1431786325, 1431663445, 1431654741, 1431655285, 1431655255, 324358997, 827675477, 863327061, 861360981, 861238101, 861229397, 861229941, 861229911, 355816277, 926241621, 890590037, 892818261, 892695381, 892686677, 892687221, 892687191, 1932874581, 1362449237, 1393906517, 1396134741, 1396011861, 1396003157, 1396003701, 1396003671, 1717847620, 644105796, 1650738756, 576996932, 1713653316, 639911492, 1646544452, 572802628, 1717846596, 644104772, 1650737732, 576995908, 1713652292, 639910468, 1646543428, 572801604, 357782357, 928207701, 896750421, 894522197, 894661461, 894652757, 894653301, 894653271, 1934840661, 1364415317, 1400066901, 1397838677, 1397977941, 1397969237, 1397969781, 1397969751, 1715881540, 642139716, 1648772676, 575030852, 1715619396, 641877572, 1648510532, 574768708, 1715880516, 642138692, 1648771652, 575029828, 1715618372, 641876548, 1648509508, 574767684, 1966297941, 1462981461, 1427329877, 1429295957, 1429435221, 1429426517, 1429427061, 1429427031, 1684424260, 610682436, 1680229956, 606488132, 1684162116, 610420292, 1679967812, 606225988, 1684423236, 610681412, 1680228932, 606487108, 1684161092, 610419268, 1679966788, 606224964, 1181107780, 1113998916, 1176913476, 1109804612, 1180845636, 1113736772, 1176651332, 1109542468, 1181106756, 1113997892, 1176912452, 1109803588, 1180844612, 1113735748, 1176650308, 1109541444, 322130773, 825447253, 856904533, 858870613, 859009877, 859001173, 859001717, 859001687, 357905237, 928330581, 896873301, 894907221, 894767957, 894775637, 894776181, 894776151, 1934963541, 1364538197, 1400189781, 1398223701, 1398084437, 1398092117, 1398092661, 1398092631, 1715758660, 642016836, 1648649796, 574907972, 1715742276, 642000452, 1648633412, 574891588, 1715757636, 642015812, 1648648772, 574906948, 1715741252, 641999428, 1648632388, 574890564, 1966420821, 1463104341, 1427452757, 1429680981, 1429541717, 1429549397, 1429549941, 1429549911, 1684301380, 610559556, 1680107076, 606365252, 1684284996, 610543172, 1680090692, 606348868, 1684300356, 610558532, 1680106052, 606364228, 1684283972, 610542148, 1680089668, 606347844, 1180984900, 1113876036, 1176790596, 1109681732, 1180968516, 1113859652, 1176774212, 1109665348, 1180983876, 1113875012, 1176789572, 1109680708, 1180967492, 1113858628, 1176773188, 1109664324, 322253653, 825570133, 857027413, 859255637, 859116373, 859124053, 859124597, 859124567, 1968386901, 1465070421, 1433613141, 1431384917, 1431507797, 1431515477, 1431516021, 1431515991, 1682335300, 608593476, 1682073156, 608331332, 1682318916, 608577092, 1682056772, 608314948, 1682334276, 608592452, 1682072132, 608330308, 1682317892, 608576068, 1682055748, 608313924, 1179018820, 1111909956, 1178756676, 1111647812, 1179002436, 1111893572, 1178740292, 1111631428, 1179017796, 1111908932, 1178755652, 1111646788, 1179001412, 1111892548, 1178739268, 1111630404, 324219733, 827536213, 863187797, 860959573, 861082453, 861090133, 861090677, 861090647, 1147561540, 1143367236, 1147299396, 1143105092, 1147545156, 1143350852, 1147283012, 1143088708, 1147560516, 1143366212, 1147298372, 1143104068, 1147544132, 1143349828, 1147281988, 1143087684, 355677013, 926102357, 890450773, 892416853, 892539733, 892547413, 892547957, 892547927, 1932735317, 1362309973, 1393767253, 1395733333, 1395856213, 1395863893, 1395864437, 1395864407, 1968526645, 1465210165, 1433752885, 1431786805, 1431663925, 1431656245, 1431655701, 1431655735, 324359477, 827675957, 863327541, 861361461, 861238581, 861230901, 861230357, 861230391, 355816757, 926242101, 890590517, 892818741, 892695861, 892688181, 892687637, 892687671, 1932875061, 1362449717, 1393906997, 1396135221, 1396012341, 1396004661, 1396004117, 1396004151, 1717847140, 644105316, 1650738276, 576996452, 1713652836, 639911012, 1646543972, 572802148, 1717847076, 644105252, 1650738212, 576996388, 1713652772, 639910948, 1646543908, 572802084, 357782837, 928208181, 896750901, 894522677, 894661941, 894654261, 894653717, 894653751, 1934841141, 1364415797, 1400067381, 1397839157, 1397978421, 1397970741, 1397970197, 1397970231, 1715881060, 642139236, 1648772196, 575030372, 1715618916, 641877092, 1648510052, 574768228, 1715880996, 642139172, 1648772132, 575030308, 1715618852, 641877028, 1648509988, 574768164, 1966298421, 1462981941, 1427330357, 1429296437, 1429435701, 1429428021, 1429427477, 1429427511, 1684423780, 610681956, 1680229476, 606487652, 1684161636, 610419812, 1679967332, 606225508, 1684423716, 610681892, 1680229412, 606487588, 1684161572, 610419748, 1679967268, 606225444, 1181107300, 1113998436, 1176912996, 1109804132, 1180845156, 1113736292, 1176650852, 1109541988, 1181107236, 1113998372, 1176912932, 1109804068, 1180845092, 1113736228, 1176650788, 1109541924, 322131253, 825447733, 856905013, 858871093, 859010357, 859002677, 859002133, 859002167, 357905717, 928331061, 896873781, 894907701, 894768437, 894777141, 894776597, 894776631, 1934964021, 1364538677, 1400190261, 1398224181, 1398084917, 1398093621, 1398093077, 1398093111, 1715758180, 642016356, 1648649316, 574907492, 1715741796, 641999972, 1648632932, 574891108, 1715758116, 642016292, 1648649252, 574907428, 1715741732, 641999908, 1648632868, 574891044, 1966421301, 1463104821, 1427453237, 1429681461, 1429542197, 1429550901, 1429550357, 1429550391, 1684300900, 610559076, 1680106596, 606364772, 1684284516, 610542692, 1680090212, 606348388, 1684300836, 610559012, 1680106532, 606364708, 1684284452, 610542628, 1680090148, 606348324, 1180984420, 1113875556, 1176790116, 1109681252, 1180968036, 1113859172, 1176773732, 1109664868, 1180984356, 1113875492, 1176790052, 1109681188, 1180967972, 1113859108, 1176773668, 1109664804, 322254133, 825570613, 857027893, 859256117, 859116853, 859125557, 859125013, 859125047, 1968387381, 1465070901, 1433613621, 1431385397, 1431508277, 1431516981, 1431516437, 1431516471, 1682334820, 608592996, 1682072676, 608330852, 1682318436, 608576612, 1682056292, 608314468, 1682334756, 608592932, 1682072612, 608330788, 1682318372, 608576548, 1682056228, 608314404, 1179018340, 1111909476, 1178756196, 1111647332, 1179001956, 1111893092, 1178739812, 1111630948, 1179018276, 1111909412, 1178756132, 1111647268, 1179001892, 1111893028, 1178739748, 1111630884, 324220213, 827536693, 863188277, 860960053, 861082933, 861091637, 861091093, 861091127, 1147561060, 1143366756, 1147298916, 1143104612, 1147544676, 1143350372, 1147282532, 1143088228, 1147560996, 1143366692, 1147298852, 1143104548, 1147544612, 1143350308, 1147282468, 1143088164, 355677493, 926102837, 890451253, 892417333, 892540213, 892548917, 892548373, 892548407, 1932735797, 1362310453, 1393767733, 1395733813, 1395856693, 1395865397, 1395864853, 1395864887, 357913397, 928338741, 896881461, 894915381, 894792501, 894783797, 894784277, 894784311, 1934971701, 1364546357, 1400197941, 1398231861, 1398108981, 1398100277, 1398100757, 1398100791, 1715750500, 642008676, 1648641636, 574899812, 1715749476, 642007652, 1648640612, 574898788, 1715750436, 642008612, 1648641572, 574899748, 1715749412, 642007588, 1648640548, 574898724, 1966428981, 1463112501, 1427460917, 1429689141, 1429566261, 1429557557, 1429558037, 1429558071, 1684293220, 610551396, 1680098916, 606357092, 1684292196, 610550372, 1680097892, 606356068, 1684293156, 610551332, 1680098852, 606357028, 1684292132, 610550308, 1680097828, 606356004, 1180976740, 1113867876, 1176782436, 1109673572, 1180975716, 1113866852, 1176781412, 1109672548, 1180976676, 1113867812, 1176782372, 1109673508, 1180975652, 1113866788, 1176781348, 1109672484, 322261813, 825578293, 857035573, 859263797, 859140917, 859132213, 859132693, 859132727, 1968395061, 1465078581, 1433621301, 1431393077, 1431532341, 1431523637, 1431524117, 1431524151, 1682327140, 608585316, 1682064996, 608323172, 1682326116, 608584292, 1682063972, 608322148, 1682327076, 608585252, 1682064932, 608323108, 1682326052, 608584228, 1682063908, 608322084, 1179010660, 1111901796, 1178748516, 1111639652, 1179009636, 1111900772, 1178747492, 1111638628, 1179010596, 1111901732, 1178748452, 1111639588, 1179009572, 1111900708, 1178747428, 1111638564, 324227893, 827544373, 863195957, 860967733, 861106997, 861098293, 861098773, 861098807, 1147553380, 1143359076, 1147291236, 1143096932, 1147552356, 1143358052, 1147290212, 1143095908, 1147553316, 1143359012, 1147291172, 1143096868, 1147552292, 1143357988, 1147290148, 1143095844, 355685173, 926110517, 890458933, 892425013, 892564277, 892555573, 892556053, 892556087, 1932743477, 1362318133, 1393775413, 1395741493, 1395880757, 1395872053, 1395872533, 1395872567, 1968517941, 1465201461, 1433744181, 1431778101, 1431638837, 1431646517, 1431646997, 1431647031, 1682204260, 608462436, 1682187876, 608446052, 1682203236, 608461412, 1682186852, 608445028, 1682204196, 608462372, 1682187812, 608445988, 1682203172, 608461348, 1682186788, 608444964, 1178887780, 1111778916, 1178871396, 1111762532, 1178886756, 1111777892, 1178870372, 1111761508, 1178887716, 1111778852, 1178871332, 1111762468, 1178886692, 1111777828, 1178870308, 1111761444, 324350773, 827667253, 863318837, 861352757, 861213493, 861221173, 861221653, 861221687, 1147430500, 1143236196, 1147414116, 1143219812, 1147429476, 1143235172, 1147413092, 1143218788, 1147430436, 1143236132, 1147414052, 1143219748, 1147429412, 1143235108, 1147413028, 1143218724, 355808053, 926233397, 890581813, 892810037, 892670773, 892678453, 892678933, 892678967, 1932866357, 1362441013, 1393898293, 1396126517, 1395987253, 1395994933, 1395995413, 1395995447, 1145464420, 1145202276, 1145448036, 1145185892, 1145463396, 1145201252, 1145447012, 1145184868, 1145464356, 1145202212, 1145447972, 1145185828, 1145463332, 1145201188, 1145446948, 1145184804, 357774133, 928199477, 896742197, 894513973, 894636853, 894644533, 894645013, 894645047, 1934832437, 1364407093, 1400058677, 1397830453, 1397953333, 1397961013, 1397961493, 1397961527, 1966289717, 1462973237, 1427321653, 1429287733, 1429410613, 1429418293, 1429418773, 1429418807, 322122549, 825439029, 856896309, 858862389, 858985269, 858992949, 858993429, 858993463, 1968526675, 1465210195, 1433752915, 1431786835, 1431663955, 1431656275, 1431655795, 1431655761, 324359507, 827675987, 863327571, 861361491, 861238611, 861230931, 861230451, 861230417, 355816787, 926242131, 890590547, 892818771, 892695891, 892688211, 892687731, 892687697, 1932875091, 1362449747, 1393907027, 1396135251, 1396012371, 1396004691, 1396004211, 1396004177, 1717847110, 644105286, 1650738246, 576996422, 1713652806, 639910982, 1646543942, 572802118, 1717847106, 644105282, 1650738242, 576996418, 1713652802, 639910978, 1646543938, 572802114, 357782867, 928208211, 896750931, 894522707, 894661971, 894654291, 894653811, 894653777, 1934841171, 1364415827, 1400067411, 1397839187, 1397978451, 1397970771, 1397970291, 1397970257, 1715881030, 642139206, 1648772166, 575030342, 1715618886, 641877062, 1648510022, 574768198, 1715881026, 642139202, 1648772162, 575030338, 1715618882, 641877058, 1648510018, 574768194, 1966298451, 1462981971, 1427330387, 1429296467, 1429435731, 1429428051, 1429427571, 1429427537, 1684423750, 610681926, 1680229446, 606487622, 1684161606, 610419782, 1679967302, 606225478, 1684423746, 610681922, 1680229442, 606487618, 1684161602, 610419778, 1679967298, 606225474, 1181107270, 1113998406, 1176912966, 1109804102, 1180845126, 1113736262, 1176650822, 1109541958, 1181107266, 1113998402, 1176912962, 1109804098, 1180845122, 1113736258, 1176650818, 1109541954, 322131283, 825447763, 856905043, 858871123, 859010387, 859002707, 859002227, 859002193, 357905747, 928331091, 896873811, 894907731, 894768467, 894777171, 894776691, 894776657, 1934964051, 1364538707, 1400190291, 1398224211, 1398084947, 1398093651, 1398093171, 1398093137, 1715758150, 642016326, 1648649286, 574907462, 1715741766, 641999942, 1648632902, 574891078, 1715758146, 642016322, 1648649282, 574907458, 1715741762, 641999938, 1648632898, 574891074, 1966421331, 1463104851, 1427453267, 1429681491, 1429542227, 1429550931, 1429550451, 1429550417, 1684300870, 610559046, 1680106566, 606364742, 1684284486, 610542662, 1680090182, 606348358, 1684300866, 610559042, 1680106562, 606364738, 1684284482, 610542658, 1680090178, 606348354, 1180984390, 1113875526, 1176790086, 1109681222, 1180968006, 1113859142, 1176773702, 1109664838, 1180984386, 1113875522, 1176790082, 1109681218, 1180968002, 1113859138, 1176773698, 1109664834, 322254163, 825570643, 857027923, 859256147, 859116883, 859125587, 859125107, 859125073, 1968387411, 1465070931, 1433613651, 1431385427, 1431508307, 1431517011, 1431516531, 1431516497, 1682334790, 608592966, 1682072646, 608330822, 1682318406, 608576582, 1682056262, 608314438, 1682334786, 608592962, 1682072642, 608330818, 1682318402, 608576578, 1682056258, 608314434, 1179018310, 1111909446, 1178756166, 1111647302, 1179001926, 1111893062, 1178739782, 1111630918, 1179018306, 1111909442, 1178756162, 1111647298, 1179001922, 1111893058, 1178739778, 1111630914, 324220243, 827536723, 863188307, 860960083, 861082963, 861091667, 861091187, 861091153, 1147561030, 1143366726, 1147298886, 1143104582, 1147544646, 1143350342, 1147282502, 1143088198, 1147561026, 1143366722, 1147298882, 1143104578, 1147544642, 1143350338, 1147282498, 1143088194, 355677523, 926102867, 890451283, 892417363, 892540243, 892548947, 892548467, 892548433, 1932735827, 1362310483, 1393767763, 1395733843, 1395856723, 1395865427, 1395864947, 1395864913, 357913427, 928338771, 896881491, 894915411, 894792531, 894783827, 894784371, 894784337, 1934971731, 1364546387, 1400197971, 1398231891, 1398109011, 1398100307, 1398100851, 1398100817, 1715750470, 642008646, 1648641606, 574899782, 1715749446, 642007622, 1648640582, 574898758, 1715750466, 642008642, 1648641602, 574899778, 1715749442, 642007618, 1648640578, 574898754, 1966429011, 1463112531, 1427460947, 1429689171, 1429566291, 1429557587, 1429558131, 1429558097, 1684293190, 610551366, 1680098886, 606357062, 1684292166, 610550342, 1680097862, 606356038, 1684293186, 610551362, 1680098882, 606357058, 1684292162, 610550338, 1680097858, 606356034, 1180976710, 1113867846, 1176782406, 1109673542, 1180975686, 1113866822, 1176781382, 1109672518, 1180976706, 1113867842, 1176782402, 1109673538, 1180975682, 1113866818, 1176781378, 1109672514, 322261843, 825578323, 857035603, 859263827, 859140947, 859132243, 859132787, 859132753, 1968395091, 1465078611, 1433621331, 1431393107, 1431532371, 1431523667, 1431524211, 1431524177, 1682327110, 608585286, 1682064966, 608323142, 1682326086, 608584262, 1682063942, 608322118, 1682327106, 608585282, 1682064962, 608323138, 1682326082, 608584258, 1682063938, 608322114, 1179010630, 1111901766, 1178748486, 1111639622, 1179009606, 1111900742, 1178747462, 1111638598, 1179010626, 1111901762, 1178748482, 1111639618, 1179009602, 1111900738, 1178747458, 1111638594, 324227923, 827544403, 863195987, 860967763, 861107027, 861098323, 861098867, 861098833, 1147553350, 1143359046, 1147291206, 1143096902, 1147552326, 1143358022, 1147290182, 1143095878, 1147553346, 1143359042, 1147291202, 1143096898, 1147552322, 1143358018, 1147290178, 1143095874, 355685203, 926110547, 890458963, 892425043, 892564307, 892555603, 892556147, 892556113, 1932743507, 1362318163, 1393775443, 1395741523, 1395880787, 1395872083, 1395872627, 1395872593, 1968517971, 1465201491, 1433744211, 1431778131, 1431638867, 1431646547, 1431647091, 1431647057, 1682204230, 608462406, 1682187846, 608446022, 1682203206, 608461382, 1682186822, 608444998, 1682204226, 608462402, 1682187842, 608446018, 1682203202, 608461378, 1682186818, 608444994, 1178887750, 1111778886, 1178871366, 1111762502, 1178886726, 1111777862, 1178870342, 1111761478, 1178887746, 1111778882, 1178871362, 1111762498, 1178886722, 1111777858, 1178870338, 1111761474, 324350803, 827667283, 863318867, 861352787, 861213523, 861221203, 861221747, 861221713, 1147430470, 1143236166, 1147414086, 1143219782, 1147429446, 1143235142, 1147413062, 1143218758, 1147430466, 1143236162, 1147414082, 1143219778, 1147429442, 1143235138, 1147413058, 1143218754, 355808083, 926233427, 890581843, 892810067, 892670803, 892678483, 892679027, 892678993, 1932866387, 1362441043, 1393898323, 1396126547, 1395987283, 1395994963, 1395995507, 1395995473, 1145464390, 1145202246, 1145448006, 1145185862, 1145463366, 1145201222, 1145446982, 1145184838, 1145464386, 1145202242, 1145448002, 1145185858, 1145463362, 1145201218, 1145446978, 1145184834, 357774163, 928199507, 896742227, 894514003, 894636883, 894644563, 894645107, 894645073, 1934832467, 1364407123, 1400058707, 1397830483, 1397953363, 1397961043, 1397961587, 1397961553, 1966289747, 1462973267, 1427321683, 1429287763, 1429410643, 1429418323, 1429418867, 1429418833, 322122579, 825439059, 856896339, 858862419, 858985299, 858992979, 858993523, 858993489, 357913907, 928339251, 896881971, 894915891, 894793011, 894785331, 894784787, 894784817, 1934972211, 1364546867, 1400198451, 1398232371, 1398109491, 1398101811, 1398101267, 1398101297, 1715749990, 642008166, 1648641126, 574899302, 1715749926, 642008102, 1648641062, 574899238, 1715749986, 642008162, 1648641122, 574899298, 1715749922, 642008098, 1648641058, 574899234, 1966429491, 1463113011, 1427461427, 1429689651, 1429566771, 1429559091, 1429558547, 1429558577, 1684292710, 610550886, 1680098406, 606356582, 1684292646, 610550822, 1680098342, 606356518, 1684292706, 610550882, 1680098402, 606356578, 1684292642, 610550818, 1680098338, 606356514, 1180976230, 1113867366, 1176781926, 1109673062, 1180976166, 1113867302, 1176781862, 1109672998, 1180976226, 1113867362, 1176781922, 1109673058, 1180976162, 1113867298, 1176781858, 1109672994, 322262323, 825578803, 857036083, 859264307, 859141427, 859133747, 859133203, 859133233, 1968395571, 1465079091, 1433621811, 1431393587, 1431532851, 1431525171, 1431524627, 1431524657, 1682326630, 608584806, 1682064486, 608322662, 1682326566, 608584742, 1682064422, 608322598, 1682326626, 608584802, 1682064482, 608322658, 1682326562, 608584738, 1682064418, 608322594, 1179010150, 1111901286, 1178748006, 1111639142, 1179010086, 1111901222, 1178747942, 1111639078, 1179010146, 1111901282, 1178748002, 1111639138, 1179010082, 1111901218, 1178747938, 1111639074, 324228403, 827544883, 863196467, 860968243, 861107507, 861099827, 861099283, 861099313, 1147552870, 1143358566, 1147290726, 1143096422, 1147552806, 1143358502, 1147290662, 1143096358, 1147552866, 1143358562, 1147290722, 1143096418, 1147552802, 1143358498, 1147290658, 1143096354, 355685683, 926111027, 890459443, 892425523, 892564787, 892557107, 892556563, 892556593, 1932743987, 1362318643, 1393775923, 1395742003, 1395881267, 1395873587, 1395873043, 1395873073, 1968518451, 1465201971, 1433744691, 1431778611, 1431639347, 1431648051, 1431647507, 1431647537, 1682203750, 608461926, 1682187366, 608445542, 1682203686, 608461862, 1682187302, 608445478, 1682203746, 608461922, 1682187362, 608445538, 1682203682, 608461858, 1682187298, 608445474, 1178887270, 1111778406, 1178870886, 1111762022, 1178887206, 1111778342, 1178870822, 1111761958, 1178887266, 1111778402, 1178870882, 1111762018, 1178887202, 1111778338, 1178870818, 1111761954, 324351283, 827667763, 863319347, 861353267, 861214003, 861222707, 861222163, 861222193, 1147429990, 1143235686, 1147413606, 1143219302, 1147429926, 1143235622, 1147413542, 1143219238, 1147429986, 1143235682, 1147413602, 1143219298, 1147429922, 1143235618, 1147413538, 1143219234, 355808563, 926233907, 890582323, 892810547, 892671283, 892679987, 892679443, 892679473, 1932866867, 1362441523, 1393898803, 1396127027, 1395987763, 1395996467, 1395995923, 1395995953, 1145463910, 1145201766, 1145447526, 1145185382, 1145463846, 1145201702, 1145447462, 1145185318, 1145463906, 1145201762, 1145447522, 1145185378, 1145463842, 1145201698, 1145447458, 1145185314, 357774643, 928199987, 896742707, 894514483, 894637363, 894646067, 894645523, 894645553, 1934832947, 1364407603, 1400059187, 1397830963, 1397953843, 1397962547, 1397962003, 1397962033, 1966290227, 1462973747, 1427322163, 1429288243, 1429411123, 1429419827, 1429419283, 1429419313, 322123059, 825439539, 856896819, 858862899, 858985779, 858994483, 858993939, 858993969, 1968526131, 1465209651, 1433752371, 1431786291, 1431663411, 1431654707, 1431655187, 1431655217, 1682196070, 608454246, 1682195046, 608453222, 1682196006, 608454182, 1682194982, 608453158, 1682196066, 608454242, 1682195042, 608453218, 1682196002, 608454178, 1682194978, 608453154, 1178879590, 1111770726, 1178878566, 1111769702, 1178879526, 1111770662, 1178878502, 1111769638, 1178879586, 1111770722, 1178878562, 1111769698, 1178879522, 1111770658, 1178878498, 1111769634, 324358963, 827675443, 863327027, 861360947, 861238067, 861229363, 861229843, 861229873, 1147422310, 1143228006, 1147421286, 1143226982, 1147422246, 1143227942, 1147421222, 1143226918, 1147422306, 1143228002, 1147421282, 1143226978, 1147422242, 1143227938, 1147421218, 1143226914, 355816243, 926241587, 890590003, 892818227, 892695347, 892686643, 892687123, 892687153, 1932874547, 1362449203, 1393906483, 1396134707, 1396011827, 1396003123, 1396003603, 1396003633, 1145456230, 1145194086, 1145455206, 1145193062, 1145456166, 1145194022, 1145455142, 1145192998, 1145456226, 1145194082, 1145455202, 1145193058, 1145456162, 1145194018, 1145455138, 1145192994, 357782323, 928207667, 896750387, 894522163, 894661427, 894652723, 894653203, 894653233, 1934840627, 1364415283, 1400066867, 1397838643, 1397977907, 1397969203, 1397969683, 1397969713, 1966297907, 1462981427, 1427329843, 1429295923, 1429435187, 1429426483, 1429426963, 1429426993, 322130739, 825447219, 856904499, 858870579, 859009843, 859001139, 859001619, 859001649, 1145333350, 1145316966, 1145332326, 1145315942, 1145333286, 1145316902, 1145332262, 1145315878, 1145333346, 1145316962, 1145332322, 1145315938, 1145333282, 1145316898, 1145332258, 1145315874, 357905203, 928330547, 896873267, 894907187, 894767923, 894775603, 894776083, 894776113, 1934963507, 1364538163, 1400189747, 1398223667, 1398084403, 1398092083, 1398092563, 1398092593, 1966420787, 1463104307, 1427452723, 1429680947, 1429541683, 1429549363, 1429549843, 1429549873, 322253619, 825570099, 857027379, 859255603, 859116339, 859124019, 859124499, 859124529, 1968386867, 1465070387, 1433613107, 1431384883, 1431507763, 1431515443, 1431515923, 1431515953, 324219699, 827536179, 863187763, 860959539, 861082419, 861090099, 861090579, 861090609, 355676979, 926102323, 890450739, 892416819, 892539699, 892547379, 892547859, 892547889, 1932735283, 1362309939, 1393767219, 1395733299, 1395856179, 1395863859, 1395864339, 1395864369, 2219066436, 71582788, 1212433476, 1078215748, 1149518916, 1141130308, 1145586756, 1145062468, 1145340996, 1145308228, 1145325636, 1145323588, 1145324676, 1145324548, 1145324616, 1145324608]
theorem LF_is : LF = LFn.map de := by decide +kernel
theorem LF_FO : LF.Perm FO := by
  have h : ksort LFn = FOn := by decide +kernel
  have p : LFn.Perm FOn := by rw [← h]; exact (ksort_perm _).symm
  rw [LF_is]
  exact p.map de
theorem LF_len : LF.length = 2160 := LF_FO.length_eq.trans FO_len
theorem f1_step {b : Nat} (hb : b < 256) (φ : Fd) (acc : List (List Int)) (hl : acc.length + (lf4 b).length ≤ 100000) {y2 y3 y4 y5 y6 y7 : Option D} :
    ∃ z2 z3 z4 z5 z6 z7, lb__law_fours_1 [some (rws acc), some (.int (b : Int)), y2, y3, y4, y5, y6, y7, none] φ = .nx [some (rws (acc ++ lf4 b)), some (.int (b : Int)), z2, z3, z4, z5, z6, z7, none] φ := by
  unfold lf4 at hl ⊢
  rw [List.length_append] at hl
  have e1 : eLc (iRg1 (aCons (eInt 8) aNil)) (tgN 8) (bCmp gEq (eBin gAnd (eBin gShr (eVar 1) (eVar 8)) (eInt 1)) (eInt 1)) (eVar 8) [8] [some (rws acc), some (.int (b : Int)), y2, y3, y4, y5, y6, y7, none] φ = .ok (nrow (pl b)) φ := by
    refine (lc_ok (List.range 8) (fun (k : Nat) => D.int (k : Int)) (fun k => decide (bv b k = 1)) (fun (k : Nat) => D.int (k : Int)) rg8 (by decide) fun k hk => ⟨_, rfl, cmp_ok (bv_ok hb (List.mem_range.mp hk) (v_ok rfl) (v_ok rfl)) rfl (eq_int _ _), fun _ => v_ok rfl⟩).trans ?_
    unfold nrow row pl
    rw [List.map_map]
    rfl
  have t1 : bCmp gEq (eCB gLen (aCons (eVar 2) aNil)) (eInt 4) [some (rws acc), some (.int (b : Int)), some (nrow (pl b)), y3, y4, y5, y6, y7, none] φ = .ok (decide ((pl b).length = 4)) φ := by
    refine cmp_ok (len_ok (v_ok rfl)) rfl ((eq_int _ _).trans ?_)
    congr 2
    rw [List.length_map, List.length_map, Bool.eq_iff_iff, decide_eq_true_eq, decide_eq_true_eq]
    omega
  have e7 : ∀ acc : List (List Int), ∀ z2 z3 z4 z5 z6 z7, eLc (iRg1 (aCons (eInt 8) aNil)) (tgN 8) bYes (eBin gSub (eInt 1) (eBin gMul (eInt 2) (eBin gAnd (eBin gShr (eVar 1) (eVar 8)) (eInt 1)))) [8] [some (rws acc), some (.int (b : Int)), z2, z3, z4, z5, z6, z7, none] φ = .ok (row (ons b)) φ := fun acc z2 z3 z4 z5 z6 z7 => by
    refine (lcm_ok (List.range 8) (fun (k : Nat) => D.int (k : Int)) (fun k => D.int (1 - 2 * bv b k)) rg8 (by decide) fun k hk => ⟨_, rfl, bin_ok rfl (bin_ok rfl (bv_ok hb (List.mem_range.mp hk) (v_ok rfl) (v_ok rfl)) (gMul_ok' (by decide))) rfl⟩).trans ?_
    unfold row ons
    rw [List.map_map]
    rfl
  have hA : ∃ z3 z4 z5 z6, sIf (bCmp gEq (eCB gLen (aCons (eVar 2) aNil)) (eInt 4)) (sSeq (sFor (iRg1 (aCons (eInt 16) aNil)) (tgN 3) lb__law_fours_2) sNil) sNil [some (rws acc), some (.int (b : Int)), some (nrow (pl b)), y3, y4, y5, y6, y7, none] φ = .nx [some (rws (acc ++ lfA b)), some (.int (b : Int)), some (nrow (pl b)), z3, z4, z5, z6, y7, none] φ := by
    by_cases h4 : (pl b).length = 4
    · obtain ⟨z3, z4, z5, z6, l2⟩ := f2_loop (y1 := some (.int (b : Int))) (y3 := y3) (y4 := y4) (y5 := y5) (y6 := y6) (y7 := y7) hb h4 φ acc (by omega)
      exact ⟨z3, z4, z5, z6, if_yes (t1.trans (by rw [decide_eq_true h4])) (seq_one (for_ok (rg1_ok (n := 16) rfl (by decide)) l2))⟩
    · refine ⟨y3, y4, y5, y6, (if_skip (t1.trans (by rw [decide_eq_false h4]))).trans ?_⟩
      unfold lfA
      rw [if_neg h4, List.append_nil]
  obtain ⟨z3, z4, z5, z6, lA⟩ := hA
  obtain ⟨w4, w6, lB⟩ := f4_loop (b := b) (y1 := some (.int (b : Int))) (y2 := some (nrow (pl b))) (y3 := z3) (y4 := z4) (y5 := z5) (y6 := z6) φ (acc ++ lfA b) (by rw [List.length_append]; omega)
  rw [List.append_assoc] at lB
  exact ⟨_, _, _, _, _, _, seq_nx (set_ok e1) (seq_nx lA (seq_nx (set_ok (e7 _ _ _ _ _ _ _)) (seq_one (for_ok rg8 lB))))⟩
theorem f_lfours (φ : Fd) : F__law_fours [] φ = .ok (rws FO) φ := by
  have hlen : ((List.range 256).flatMap lf4).length + ((List.range 8).flatMap e4p).length = 2160 := by rw [← List.length_append]; exact LF_len
  obtain ⟨ρ1, l1, y1, y2, y3, y4, y5, y6, y7, rfl⟩ := for_app (T := tgN 1) (φ := φ) (e := fun (k : Nat) => D.int (k : Int)) (B := lb__law_fours_1) lf4
    (fun acc ρ => ∃ y1 y2 y3 y4 y5 y6 y7, ρ = [some (rws acc), y1, y2, y3, y4, y5, y6, y7, none]) (List.range 256) [] (ρ := [some (rws []), none, none, none, none, none, none, none, none]) ⟨none, none, none, none, none, none, none, rfl⟩ (by simp only [List.length_nil]; omega) (by
    rintro b hb acc ρ hl ⟨y1, y2, y3, y4, y5, y6, y7, rfl⟩
    obtain ⟨z2, z3, z4, z5, z6, z7, h⟩ := f1_step (y2 := y2) (y3 := y3) (y4 := y4) (y5 := y5) (y6 := y6) (y7 := y7) (List.mem_range.mp hb) φ acc hl
    exact ⟨_, rfl, _, .inl h, _, _, _, _, _, _, _, rfl⟩)
  rw [List.nil_append] at l1
  obtain ⟨ρ2, l2, y6', rfl⟩ := for_app (T := tgN 6) (φ := φ) (e := fun (k : Nat) => D.int (k : Int)) (B := lb__law_fours_5) e4p
    (fun acc ρ => ∃ y6, ρ = [some (rws acc), y1, y2, y3, y4, y5, y6, y7, none]) (List.range 8) ((List.range 256).flatMap lf4) (ρ := [some (rws ((List.range 256).flatMap lf4)), y1, y2, y3, y4, y5, y6, y7, none]) ⟨y6, rfl⟩ (by omega) (by
    rintro k hk acc ρ hl ⟨z6, rfl⟩
    have eqk : ∀ j : Nat, (if ((j : Int) = (k : Int)) then (1 : Int) else 0) = if j = k then 1 else 0 := fun j => by
      by_cases h : j = k
      · rw [if_pos h, if_pos (by omega)]
      · rw [if_neg h, if_neg (by omega)]
    have ei : ∀ j : Nat, gInt [D.bl (decide ((j : Int) = (k : Int)))] = some (.int (if j = k then 1 else 0)) := fun j => by
      rw [← eqk]
      by_cases h : (j : Int) = (k : Int)
      · rw [decide_eq_true h, if_pos h]; rfl
      · rw [decide_eq_false h, if_neg h]; rfl
    have bd : ∀ j : Nat, (4 * (if j = k then (1 : Int) else 0)).natAbs < 18446744073709551616 := fun j => by split <;> decide
    have e1 : ∀ a : List (List Int), eLc (iRg1 (aCons (eInt 8) aNil)) (tgN 8) bYes (eBin gMul (eInt 4) (eCB gInt (aCons (eBin gEq (eVar 8) (eVar 6)) aNil))) [8] [some (rws a), y1, y2, y3, y4, y5, some (.int (k : Int)), y7, none] φ = .ok (row ((List.range 8).map fun j => 4 * (if j = k then 1 else 0))) φ := fun a => by
      refine (lcm_ok (List.range 8) (fun (k : Nat) => D.int (k : Int)) (fun j => D.int (4 * (if j = k then 1 else 0))) rg8 (by decide) fun j hj => ⟨_, rfl, bin_ok rfl (cb1_ok (bin_ok (v_ok rfl) (v_ok rfl) (eq_int _ _)) (ei j)) (gMul_ok' (by decide))⟩).trans ?_
      unfold row
      rw [List.map_map]
      rfl
    have e2 : ∀ a : List (List Int), eLc (iRg1 (aCons (eInt 8) aNil)) (tgN 8) bYes (eBin gSub (eInt 0) (eBin gMul (eInt 4) (eCB gInt (aCons (eBin gEq (eVar 8) (eVar 6)) aNil)))) [8] [some (rws a), y1, y2, y3, y4, y5, some (.int (k : Int)), y7, none] φ = .ok (row ((List.range 8).map fun j => 0 - 4 * (if j = k then 1 else 0))) φ := fun a => by
      refine (lcm_ok (List.range 8) (fun (k : Nat) => D.int (k : Int)) (fun j => D.int (0 - 4 * (if j = k then 1 else 0))) rg8 (by decide) fun j hj => ⟨_, rfl, bin_ok rfl (bin_ok rfl (cb1_ok (bin_ok (v_ok rfl) (v_ok rfl) (eq_int _ _)) (ei j)) (gMul_ok' (by decide))) rfl⟩).trans ?_
      unfold row
      rw [List.map_map]
      rfl
    have hl' : acc.length + 2 ≤ 100000 := hl
    have s1 : sMut 0 gApp (eLc (iRg1 (aCons (eInt 8) aNil)) (tgN 8) bYes (eBin gMul (eInt 4) (eCB gInt (aCons (eBin gEq (eVar 8) (eVar 6)) aNil))) [8]) [some (rws acc), y1, y2, y3, y4, y5, some (.int (k : Int)), y7, none] φ = .nx [some (rws (acc ++ [(List.range 8).map fun j => 4 * (if j = k then 1 else 0)])), y1, y2, y3, y4, y5, some (.int (k : Int)), y7, none] φ := by
      rw [app_ok (i := 0) (l := acc.map row) rfl (e1 acc) (by
        rw [List.length_map]
        have := size_le (show acc.length + 1 ≤ 1000000 by omega)
        omega)]
      unfold rws
      rw [List.map_append]
      rfl
    have s2 : sMut 0 gApp (eLc (iRg1 (aCons (eInt 8) aNil)) (tgN 8) bYes (eBin gSub (eInt 0) (eBin gMul (eInt 4) (eCB gInt (aCons (eBin gEq (eVar 8) (eVar 6)) aNil)))) [8]) [some (rws (acc ++ [(List.range 8).map fun j => 4 * (if j = k then 1 else 0)])), y1, y2, y3, y4, y5, some (.int (k : Int)), y7, none] φ = .nx [some (rws (acc ++ e4p k)), y1, y2, y3, y4, y5, some (.int (k : Int)), y7, none] φ := by
      rw [app_ok (i := 0) (l := (acc ++ [(List.range 8).map fun j => 4 * (if j = k then 1 else 0)]).map row) rfl (e2 _) (by
        rw [List.length_map, List.length_append]
        have := size_le (show acc.length + 2 ≤ 1000000 by omega)
        show acc.length + 1 < _
        omega)]
      have : acc ++ e4p k = (acc ++ [(List.range 8).map fun j => 4 * (if j = k then 1 else 0)]) ++ [(List.range 8).map fun j => 0 - 4 * (if j = k then 1 else 0)] := by
        rw [List.append_assoc]; rfl
      rw [this]
      unfold rws
      rw [List.map_append (l₁ := acc ++ [(List.range 8).map fun j => 4 * (if j = k then 1 else 0)])]
      rfl
    exact ⟨_, rfl, _, .inl (seq_nx s1 (seq_one s2)), some (.int (k : Int)), rfl⟩)
  refine run_rt (seq_nx (set_ok (d := rws []) rfl) (seq_nx (for_ok (rg1_ok (n := 256) rfl (by decide)) l1) (seq_nx (for_ok rg8 l2) (seq_rt (ret_ok (cb1_ok (v_ok (d := rws LF) rfl) ?_))))))
  unfold rws
  rw [emb_row.gSorted (by decide), sort_is tot_row (FO_asc.imp fun {a b} h => ?_) LF_FO.symm]
  unfold leL
  rw [tot_row.asym h]
  rfl
end Pf

set_option Elab.async false
set_option linter.all false
set_option maxRecDepth 100000
set_option maxHeartbeats 4000000
namespace Pf
open PySem PySem.Spec PyProof.Rows L2

theorem flg_len3 : ∀ (cs : List (List Int)) (rs : List (List Int)), (∀ c ∈ cs, c.length ≤ 3) → (flg rs cs).length ≤ 3 ^ cs.length * rs.length
  | [], rs, _ => by show rs.length ≤ _; simp
  | c :: cs, rs, h => by
    have h1 := flg_len3 cs (rs.flatMap fun r => c.map fun x => r ++ [x]) fun d hd => h d (List.mem_cons_of_mem _ hd)
    have h2 : (rs.flatMap fun r => c.map fun x => r ++ [x]).length ≤ 3 * rs.length := by
      rw [List.length_flatMap]
      have hc := h c List.mem_cons_self
      clear h1
      induction rs with
      | nil => simp
      | cons r rs ih => rw [List.map_cons, List.sum_cons, List.length_map, List.length_cons]; omega
    show (flg _ cs).length ≤ _
    rw [List.length_cons, Nat.pow_succ, Nat.mul_assoc]
    exact Nat.le_trans h1 (Nat.mul_le_mul_left _ h2)
theorem f_lists3 {cs : List (List Int)} (h2 : ∀ c ∈ cs, c.length ≤ 3) (h8 : cs.length ≤ 8) (φ : Fd) : F_lists_of [.lst (cs.map tupI)] φ = .ok (rws (prodL cs)) φ := by
  obtain ⟨ρ', l1, y2, rfl⟩ := for_inv (T := tgN 2) (φ := φ) (e := tupI) (B := (sSeq (sSet 1 (eLc2 (iSeq (eVar 1)) (tgN 3) bYes (iSeq (eVar 2)) (tgN 4) bYes (eBin gAdd (eVar 3) (eLst (aCons (eVar 4) aNil))) [3, 4] [4])) sNil))
    (fun pre ρ => ∃ y2, ρ = [some (.lst (cs.map tupI)), some (rws (flg [[]] pre)), y2, none, none]) cs [] (ρ := [some (.lst (cs.map tupI)), some (rws [[]]), none, none, none]) ⟨none, rfl⟩ (by
    rintro pre c post ρ hpp ⟨y2, rfl⟩
    have hp' : cs = pre ++ c :: post := hpp
    have hpre : ∀ d ∈ pre ++ [c], d.length ≤ 3 := fun d hd => h2 d (by
      rw [hp']
      rcases List.mem_append.mp hd with hd | hd
      · simp [hd]
      · rw [List.mem_singleton.mp hd]; simp)
    have hpl : (pre ++ [c]).length ≤ 8 := by rw [hp'] at h8; rw [List.length_append] at h8 ⊢; simp at h8 ⊢; omega
    have es : ((flg [[]] pre).flatMap fun r => (c.filter fun _ => true).map fun x => row (r ++ [x])) = (flg [[]] (pre ++ [c])).map row := by
      have hf : c.filter (fun _ => true) = c := List.filter_eq_self.mpr fun _ _ => rfl
      rw [hf]
      unfold flg
      rw [List.foldl_append]
      show _ = (List.flatMap _ (pre.foldl _ [[]])).map row
      rw [List.map_flatMap]
      congr 1
      funext r
      rw [List.map_map]
      rfl
    have hlen : (flg [[]] (pre ++ [c])).length ≤ 6561 := by
      have := flg_len3 (pre ++ [c]) [[]] hpre
      have h3 : 3 ^ (pre ++ [c]).length ≤ 3 ^ 8 := Nat.pow_le_pow_right (by decide) hpl
      simp only [List.length_cons, List.length_nil] at this
      omega
    refine ⟨_, rfl, _, .inl (seq_one (set_ok (lc2_ok (flg [[]] pre) row (fun _ => c) D.int (fun _ _ => true) (fun r x => row (r ++ [x])) (seq_l (v_ok rfl)) ?_ fun r hr => ⟨_, rfl, seq_t (v_ok rfl), fun x hx => ⟨_, rfl, rfl, fun _ => bin_ok (v_ok rfl) (lst_ok (one_ok (v_ok rfl)) (size_le (show 1 ≤ 1000000 by decide))) ?_⟩⟩))), some (tupI c), ?_⟩
    · rw [es, List.length_map]
      exact size_le (Nat.le_trans hlen (by decide))
    · have := flg_pl pre [[]] 0 (fun r hr => by rw [List.mem_singleton.mp hr]; exact Nat.le_refl _) r hr
      have hpl' : pre.length ≤ 8 := by rw [List.length_append] at hpl; omega
      refine (gAdd_l (by rw [List.length_map]; show r.length + 1 ≤ 1000000; omega)).trans ?_
      unfold row
      rw [List.map_append]
      rfl
    · rw [es]
      rfl)
  rw [List.nil_append, flg_all] at l1
  exact run_rt (seq_nx (set_ok (d := rws [[]]) rfl) (seq_nx (for_ok (seq_l (v_ok rfl)) l1) (seq_rt (ret_ok (v_ok rfl)))))
abbrev lb_rows_of_square_four_1 : SS := (sSeq (sMut 0 gExt (eLc (iSeq (eTup (aCons (eUn gNeg (eInt 4)) (aCons (eInt 4) aNil)))) (tgN 5) bYes (eBin gAdd (eBin gAdd (eBin gMul (eLst (aCons (eInt 0) aNil)) (eVar 1)) (eLst (aCons (eVar 5) aNil))) (eBin gMul (eLst (aCons (eInt 0) aNil)) (eBin gSub (eBin gSub (eInt 8) (eInt 1)) (eVar 1)))) [5])) (sSeq (sSet 2 (eLc (iRg1 (aCons (eInt 8) aNil)) (tgN 4) bYes (eIf (bCmp gEq (eVar 4) (eVar 1)) (eTup (aCons (eUn gNeg (eInt 3)) (aCons (eInt 3) aNil))) (eTup (aCons (eUn gNeg (eInt 1)) (aCons (eInt 1) aNil)))) [4])) (sSeq (sMut 0 gExt (eLc (iSeq (eCall F_lists_of (aCons (eVar 2) aNil))) (tgN 3) (bCmp gEq (eBin gMod (eCB gSum (aCons (eVar 3) aNil)) (eInt 4)) (eInt 0)) (eVar 3) [3])) sNil)))
abbrev lb_frames_1 : SS := (sSeq (sTally 1 3 (eLc (iSeq (eVar 0)) (tgN 4) bYes (eBin gMod (eCall F_row_product (aCons (eVar 2) (aCons (eVar 4) aNil))) (eInt 2)) [4]) (eVar 2)) sNil)

def P0 : List (List Int) := (prodL chE).filter fun w => decide (dot w w = 4) && decide (w.sum.fmod 4 = 0)
def g4 (k : Nat) : List (List Int) := e4c k ++ (prodL (chO k)).filter fun w => decide (w.sum.fmod 4 = 0)
theorem Q0_is : Q0 = P0 ++ (List.range 8).flatMap g4 := rfl
theorem prod_each : ∀ {cs : List (List Int)} {w : List Int}, w ∈ prodL cs → w.length = cs.length ∧ ∀ x ∈ w, ∃ c ∈ cs, x ∈ c
  | [], w, h => by
    have : w = [] := by simpa [prodL] using h
    subst this
    exact ⟨rfl, fun x hx => by cases hx⟩
  | c :: cs, w, h => by
    obtain ⟨x, hx, v, hv, rfl⟩ := prodL_cons.mp h
    obtain ⟨h1, h2⟩ := prod_each hv
    refine ⟨by rw [List.length_cons, List.length_cons, h1], fun y hy => ?_⟩
    rcases List.mem_cons.mp hy with rfl | hy
    · exact ⟨c, List.mem_cons_self, hx⟩
    · obtain ⟨d, hd, e⟩ := h2 y hy
      exact ⟨d, List.mem_cons_of_mem _ hd, e⟩
theorem prodE_len : (prodL chE).length = 6561 := by decide +kernel
theorem prodO_len : ((List.range 8).all fun k => decide ((prodL (chO k)).length = 256)) = true := by decide +kernel
theorem f_fours (φ : Fd) : F_rows_of_square_four [] φ = .ok (rws FO) φ := by
  have ex : ∀ w ∈ prodL chE, w.length = 8 ∧ ∀ x ∈ w, x.natAbs ≤ 2 := fun w hw => by
    obtain ⟨h1, h2⟩ := prod_each hw
    refine ⟨h1, fun x hx => ?_⟩
    obtain ⟨c, hc, hxc⟩ := h2 x hx
    rw [List.eq_of_mem_replicate hc] at hxc
    simp at hxc
    omega
  have e0 : eLc (iSeq (eCall F_lists_of (aCons (eBin gMul (eLst (aCons (eTup (aCons (eUn gNeg (eInt 2)) (aCons (eInt 0) (aCons (eInt 2) aNil)))) aNil)) (eInt 8)) aNil))) (tgN 3) (bAnd (bCmp gEq (eCall F_row_square (aCons (eVar 3) aNil)) (eInt 4)) (bCmp gEq (eBin gMod (eCB gSum (aCons (eVar 3) aNil)) (eInt 4)) (eInt 0))) (eVar 3) [3] [none, none, none, none, none, none] φ = .ok (rws P0) φ := by
    refine lc_ok (prodL chE) row (fun w => decide (dot w w = 4) && decide (w.sum.fmod 4 = 0)) row (seq_l (call_ok (one_ok (d := .lst (chE.map tupI)) rfl) (f_lists3 (fun c hc => by rw [List.eq_of_mem_replicate hc]; decide) (by decide) φ))) (size_le (by rw [prodE_len]; decide)) fun w hw => ⟨_, rfl, ?_, fun _ => v_ok rfl⟩
    obtain ⟨h8, hb⟩ := ex w hw
    have s1 : bCmp gEq (eCall F_row_square (aCons (eVar 3) aNil)) (eInt 4) [none, none, none, some (row w), none, none] φ = .ok (decide (dot w w = 4)) φ := cmp_ok (call_ok (one_ok (v_ok rfl)) (f_square φ (fun x hx => by have := hb x hx; omega) (by omega))) rfl (eq_int _ _)
    have s2 : bCmp gEq (eBin gMod (eCB gSum (aCons (eVar 3) aNil)) (eInt 4)) (eInt 0) [none, none, none, some (row w), none, none] φ = .ok (decide (w.sum.fmod 4 = 0)) φ := cmp_ok (bin_ok (cb1_ok (v_ok rfl) (gSum_ints _)) rfl (gMod_ok (by decide))) rfl (eq_int _ _)
    show (bCmp gEq (eCall F_row_square (aCons (eVar 3) aNil)) (eInt 4) [none, none, none, some (row w), none, none] φ).bind _ = _
    rw [s1]
    cases hd : decide (dot w w = 4) with
    | true => exact s2
    | false => rfl
  have hP : P0.length ≤ 6561 := by rw [← prodE_len]; exact List.length_filter_le _ _
  have hQ : P0.length + ((List.range 8).flatMap g4).length = 2160 := by rw [← List.length_append, ← Q0_is]; exact Q0_len
  obtain ⟨ρ', l1, y1, y2, rfl⟩ := for_app (T := tgN 1) (φ := φ) (e := fun (k : Nat) => D.int (k : Int)) (B := lb_rows_of_square_four_1) g4
    (fun acc ρ => ∃ y1 y2, ρ = [some (rws acc), y1, y2, none, none, none]) (List.range 8) P0 (ρ := [some (rws P0), none, none, none, none, none]) ⟨none, none, rfl⟩ (by omega) (by
    rintro k hk acc ρ hl ⟨y1, y2, rfl⟩
    have hk8 := List.mem_range.mp hk
    unfold g4 at hl
    rw [List.length_append] at hl
    have e5 : eLc (iSeq (eTup (aCons (eUn gNeg (eInt 4)) (aCons (eInt 4) aNil)))) (tgN 5) bYes (eBin gAdd (eBin gAdd (eBin gMul (eLst (aCons (eInt 0) aNil)) (eVar 1)) (eLst (aCons (eVar 5) aNil))) (eBin gMul (eLst (aCons (eInt 0) aNil)) (eBin gSub (eBin gSub (eInt 8) (eInt 1)) (eVar 1)))) [5] [some (rws acc), some (.int (k : Int)), y2, none, none, none] φ = .ok (.lst ((e4c k).map row)) φ := by
      refine Eq.trans (b := O.ok (D.lst (([(-4 : Int), 4]).map fun x => row (List.replicate k 0 ++ [x] ++ List.replicate (7 - k) 0))) φ) (lcm_ok ([(-4 : Int), 4]) D.int (fun x => row (List.replicate k 0 ++ [x] ++ List.replicate (7 - k) 0)) rfl (by decide) fun x hx => ⟨_, rfl, ?_⟩) ?_
      · refine bin_ok (bin_ok (bin_ok (d := .lst [.int 0]) (z := row (List.replicate k 0)) rfl (v_ok rfl) (gMul_rep 0 k (by omega))) (lst_ok (one_ok (v_ok rfl)) (size_le (show 1 ≤ 1000000 by decide))) (z := row (List.replicate k 0 ++ [x])) ?_) (bin_ok (d := .lst [.int 0]) (e := .int ((7 - k : Nat) : Int)) (z := row (List.replicate (7 - k) 0)) rfl (bin_ok (d := .int 7) rfl (v_ok rfl) ?_) (gMul_rep 0 (7 - k) (by omega))) ?_
        · refine (gAdd_l (by simp; omega)).trans ?_
          unfold row
          rw [List.map_append]
          rfl
        · show some (D.int (7 - (k : Int))) = _
          rw [show (7 : Int) - (k : Int) = ((7 - k : Nat) : Int) by omega]
        · refine (gAdd_l (by simp; omega)).trans ?_
          unfold row
          rw [List.map_append (l₁ := List.replicate k 0 ++ [x])]
      · unfold e4c
        rw [List.map_map]
        rfl
    have s1 : sMut 0 gExt (eLc (iSeq (eTup (aCons (eUn gNeg (eInt 4)) (aCons (eInt 4) aNil)))) (tgN 5) bYes (eBin gAdd (eBin gAdd (eBin gMul (eLst (aCons (eInt 0) aNil)) (eVar 1)) (eLst (aCons (eVar 5) aNil))) (eBin gMul (eLst (aCons (eInt 0) aNil)) (eBin gSub (eBin gSub (eInt 8) (eInt 1)) (eVar 1)))) [5]) [some (rws acc), some (.int (k : Int)), y2, none, none, none] φ = .nx [some (rws (acc ++ e4c k)), some (.int (k : Int)), y2, none, none, none] φ := by
      rw [ext_ok (i := 0) (l := acc.map row) rfl e5 (by rw [List.length_map, List.length_map]; exact size_le (by omega))]
      unfold rws
      rw [List.map_append]
      rfl
    have e2 : eLc (iRg1 (aCons (eInt 8) aNil)) (tgN 4) bYes (eIf (bCmp gEq (eVar 4) (eVar 1)) (eTup (aCons (eUn gNeg (eInt 3)) (aCons (eInt 3) aNil))) (eTup (aCons (eUn gNeg (eInt 1)) (aCons (eInt 1) aNil)))) [4] [some (rws (acc ++ e4c k)), some (.int (k : Int)), y2, none, none, none] φ = .ok (.lst ((chO k).map tupI)) φ := by
      refine (lcm_ok (List.range 8) (fun (k : Nat) => D.int (k : Int)) (fun p => tupI (if p = k then [-3, 3] else [-1, 1])) rg8 (by decide) fun p hp => ⟨_, rfl, ?_⟩).trans ?_
      · have t : bCmp gEq (eVar 4) (eVar 1) [some (rws (acc ++ e4c k)), some (.int (k : Int)), y2, none, some (.int (p : Int)), none] φ = .ok (decide ((p : Int) = (k : Int))) φ := cmp_ok (v_ok rfl) (v_ok rfl) (eq_int _ _)
        show eIf (bCmp gEq (eVar 4) (eVar 1)) _ _ [some (rws (acc ++ e4c k)), some (.int (k : Int)), y2, none, some (.int (p : Int)), none] φ = _
        unfold eIf
        rw [t]
        by_cases h : p = k
        · rw [decide_eq_true (by omega), if_pos h]; rfl
        · rw [decide_eq_false (by omega), if_neg h]; rfl
      · unfold chO
        rw [List.map_map]
        rfl
    have hO := List.all_eq_true.mp prodO_len k hk
    rw [decide_eq_true_eq] at hO
    have e3 : eLc (iSeq (eCall F_lists_of (aCons (eVar 2) aNil))) (tgN 3) (bCmp gEq (eBin gMod (eCB gSum (aCons (eVar 3) aNil)) (eInt 4)) (eInt 0)) (eVar 3) [3] [some (rws (acc ++ e4c k)), some (.int (k : Int)), some (.lst ((chO k).map tupI)), none, none, none] φ = .ok (.lst (((prodL (chO k)).filter fun w => decide (w.sum.fmod 4 = 0)).map row)) φ :=
      lc_ok (prodL (chO k)) row (fun w => decide (w.sum.fmod 4 = 0)) row (seq_l (call_ok (one_ok (v_ok rfl)) (f_lists3 (fun c hc => by
        unfold chO at hc
        obtain ⟨p, _, rfl⟩ := List.mem_map.mp hc
        split <;> decide) (by unfold chO; rw [List.length_map]; decide) φ))) (size_le (by rw [hO]; decide)) fun w hw => ⟨_, rfl, cmp_ok (bin_ok (cb1_ok (v_ok rfl) (gSum_ints _)) rfl (gMod_ok (by decide))) rfl (eq_int _ _), fun _ => v_ok rfl⟩
    have s3 : sMut 0 gExt (eLc (iSeq (eCall F_lists_of (aCons (eVar 2) aNil))) (tgN 3) (bCmp gEq (eBin gMod (eCB gSum (aCons (eVar 3) aNil)) (eInt 4)) (eInt 0)) (eVar 3) [3]) [some (rws (acc ++ e4c k)), some (.int (k : Int)), some (.lst ((chO k).map tupI)), none, none, none] φ = .nx [some (rws (acc ++ g4 k)), some (.int (k : Int)), some (.lst ((chO k).map tupI)), none, none, none] φ := by
      rw [ext_ok (i := 0) (l := (acc ++ e4c k).map row) rfl e3 (by rw [List.length_map, List.length_map, List.length_append]; exact size_le (by omega))]
      unfold g4 rws
      rw [← List.append_assoc, List.map_append (l₁ := acc ++ e4c k)]
      rfl
    exact ⟨_, rfl, _, .inl (seq_nx s1 (seq_nx (set_ok e2) (seq_one s3))), some (.int (k : Int)), some (.lst ((chO k).map tupI)), rfl⟩)
  refine run_rt (seq_nx (set_ok e0) (seq_nx (for_ok rg8 l1) (seq_rt (ret_ok (cb1_ok (v_ok (d := rws Q0) rfl) ?_)))))
  unfold rws
  rw [emb_row.gSorted (by decide), sort_is tot_row (FO_asc.imp fun {a b} h => ?_) Q0_FO.symm]
  unfold leL
  rw [tot_row.asym h]
  rfl
end Pf

set_option Elab.async false
set_option linter.all false
set_option maxRecDepth 100000
set_option maxHeartbeats 4000000
namespace Pf
open PySem PySem.Spec PyProof.Rows L2

/-! ## frames: the rows by their keys -/
def gk (l : List (List Int)) (k : List Int) : List (List Int) := l.filter fun a => decide (kb a = k)
def encT (ks : List (List Int)) (l : List (List Int)) : List (List Key × D) := ks.map fun k => (keyL k, rws (gk l k))
theorem keyL_inj {a b : List Int} : keyL a = keyL b ↔ a = b := by
  unfold keyL
  constructor
  · intro h
    have : ∀ {a b : List Int}, a.map (Sum.inl : Int → Key) = b.map Sum.inl → a = b := fun {a b} => by
      induction a generalizing b with
      | nil => intro h; cases b with
        | nil => rfl
        | cons y b => cases h
      | cons x a ih => intro h; cases b with
        | nil => cases h
        | cons y b =>
          rw [List.map_cons, List.map_cons] at h
          injection h with h1 h2
          injection h1 with h1
          rw [h1, ih h2]
    exact this h
  · rintro rfl; rfl
theorem gk_none {l : List (List Int)} {k : List Int} (h : ∀ a ∈ l, kb a ≠ k) : gk l k = [] := by
  unfold gk
  rw [List.filter_eq_nil_iff]
  intro a ha
  simpa using h a ha
theorem gk_app (l : List (List Int)) (r : List Int) (k : List Int) : gk (l ++ [r]) k = gk l k ++ (if kb r = k then [r] else []) := by
  unfold gk
  rw [List.filter_append]
  congr 1
  by_cases h : kb r = k
  · rw [if_pos h, List.filter_cons_of_pos (by simpa using h)]; rfl
  · rw [if_neg h, List.filter_cons_of_neg (by simpa using h)]; rfl
theorem val_enc {l : List (List Int)} {k : List Int} : ∀ {ks : List (List Int)}, valT (encT ks l) (keyL k) = if k ∈ ks then some (rws (gk l k)) else none
  | [] => by simp [valT, encT]
  | j :: ks => by
    have ih := val_enc (l := l) (k := k) (ks := ks)
    unfold valT encT at ih ⊢
    rw [List.map_cons]
    by_cases h : j = k
    · subst h
      rw [List.find?_cons_of_pos (by simp)]
      simp
    · rw [List.find?_cons_of_neg (by simp [keyL_inj, h]), ih]
      have : (k ∈ j :: ks) ↔ k ∈ ks := by simp [Ne.symm h]
      by_cases q : k ∈ ks
      · rw [if_pos q, if_pos (this.mpr q)]
      · rw [if_neg q, if_neg (fun z => q (this.mp z))]
theorem any_enc {l : List (List Int)} {k : List Int} {ks : List (List Int)} : ((encT ks l).any fun kv => decide (kv.1 = keyL k)) = decide (k ∈ ks) := by
  rw [Bool.eq_iff_iff, List.any_eq_true, decide_eq_true_eq]
  unfold encT
  constructor
  · rintro ⟨x, hx, h⟩
    obtain ⟨j, hj, rfl⟩ := List.mem_map.mp hx
    have := keyL_inj.mp (of_decide_eq_true h)
    rw [← this]; exact hj
  · intro h
    exact ⟨_, List.mem_map.mpr ⟨k, h, rfl⟩, by simp⟩
/-- the keys so far -/
def kin (ks : List (List Int)) (r : List Int) : List (List Int) := if kb r ∈ ks then ks else ks ++ [kb r]
theorem put_enc {ks l : List (List Int)} {r : List Int} (hk : ∀ a ∈ l, kb a ∈ ks) : putT (encT ks l) (keyL (kb r)) (.lst (((if kb r ∈ ks then gk l (kb r) else []).map row) ++ [row r])) = encT (kin ks r) (l ++ [r]) := by
  unfold putT
  rw [any_enc]
  by_cases h : kb r ∈ ks
  · rw [decide_eq_true h, if_pos rfl, if_pos h]
    unfold kin encT
    rw [if_pos h, List.map_map]
    refine List.map_congr_left fun k hkk => ?_
    show (if keyL k = keyL (kb r) then (keyL k, _) else (keyL k, rws (gk l k))) = _
    rw [gk_app]
    by_cases e : k = kb r
    · subst e
      rw [if_pos rfl, if_pos rfl]
      unfold rws
      rw [List.map_append]
      rfl
    · rw [if_neg (fun z => e (keyL_inj.mp z)), if_neg (fun z => e z.symm), List.append_nil]
  · rw [decide_eq_false h, if_neg (by decide), if_neg h]
    unfold kin encT
    rw [if_neg h, List.map_append]
    have hn : gk l (kb r) = [] := gk_none fun a ha e => h (e ▸ hk a ha)
    congr 1
    · refine List.map_congr_left fun k hkk => ?_
      rw [gk_app, if_neg (fun z : kb r = k => h (z ▸ hkk)), List.append_nil]
    · show [(keyL (kb r), D.lst ([] ++ [row r]))] = [(keyL (kb r), rws (gk (l ++ [r]) (kb r)))]
      rw [gk_app, hn, if_pos rfl]
      rfl
theorem f_base (φ : Fd) : F_base_roots [] φ = .ok (rws bs) φ := by kernel_rfl
theorem f_lbase (φ : Fd) : F__law_base [] φ = .ok (rws bs) φ := by kernel_rfl
theorem tally_ok {ρ : En} {φ : Fd} {A B : SX} {i j : Nat} {ks : List D} {ns : List Int} {d : List (List Key × D)} {r : D} {os : List D} (hA : A ρ φ = .ok (.lst ks) φ) (hk : intsOf ks = some ns) (hi : ρ[i]? = some (some (.dt d))) (hj : j < ρ.length) (hB : B (ρ.set j (some (.tup ks))) φ = .ok r φ) (ho : (valT d (keyL ns)).getD (.lst []) = .lst os)
    (h1 : os.length < sizeLine) (h2 : d.length < sizeLine) : sTally i j A B ρ φ = .nx ((ρ.set j (some (.tup ks))).set i (some (.dt (putT d (keyL ns) (.lst (os ++ [r])))))) φ := by
  unfold sTally
  rw [hA]
  simp only [O.toR, hk, hi, if_neg (show ¬ ρ.length ≤ j by omega), hB, ho, if_pos (show os.length < sizeLine ∧ d.length < sizeLine from ⟨h1, h2⟩)]
theorem f_frames (φ : Fd) : ∃ ks : List (List Int), ks.Nodup ∧ (∀ k, k ∈ ks ↔ ∃ a ∈ FO, kb a = k) ∧ F_frames [] φ = .ok (.lst (((ks.map (gk FO)).mergeSort (leL ltRR)).map rws)) φ := by
  obtain ⟨ρ', l1, ks, y2, y3, hn, hm, rfl⟩ := for_inv (T := tgN 2) (φ := φ) (e := row) (B := lb_frames_1)
    (fun pre ρ => ∃ (ks : List (List Int)) (y2 y3 : Option D), ks.Nodup ∧ (∀ k, k ∈ ks ↔ ∃ a ∈ pre, kb a = k) ∧ ρ = [some (rws bs), some (.dt (encT ks pre)), y2, y3, none]) FO [] (ρ := [some (rws bs), some (.dt []), none, none, none]) ⟨[], none, none, .nil, fun k => by simp, rfl⟩ (by
    rintro pre r post ρ hpp ⟨ks, y2, y3, hn, hm, rfl⟩
    have hr : r ∈ FO := by rw [show FO = pre ++ r :: post from hpp]; simp
    have hpl : pre.length < 2160 := by
      have := congrArg List.length hpp
      rw [List.nil_append, FO_len, List.length_append, List.length_cons] at this
      omega
    have hb := FO_bd hr
    have h8 : r.length = 8 := (FO_mem.mp hr).1.1
    have eA : eLc (iSeq (eVar 0)) (tgN 4) bYes (eBin gMod (eCall F_row_product (aCons (eVar 2) (aCons (eVar 4) aNil))) (eInt 2)) [4] [some (rws bs), some (.dt (encT ks pre)), some (row r), y3, none] φ = .ok (row (kb r)) φ := by
      refine (lcm_ok bs row (fun b => D.int ((dot r b).fmod 2)) (seq_l (v_ok rfl)) (by decide) fun b hb' => ⟨_, rfl, bin_ok (call_ok (two_ok (v_ok rfl) (v_ok rfl)) (f_product φ (fun x hx => by have := hb x hx; omega) (by omega))) rfl (gMod_ok (by decide))⟩).trans ?_
      unfold kb row
      rw [List.map_map]
      rfl
    have ksl : ks.length ≤ pre.length := by
      have := sub_len hn (m := pre.map kb) fun k hk => by
        obtain ⟨a, ha, e⟩ := (hm k).mp hk
        exact List.mem_map.mpr ⟨a, ha, e⟩
      rw [List.length_map] at this
      exact this
    have old : (valT (encT ks pre) (keyL (kb r))).getD (.lst []) = .lst ((if kb r ∈ ks then gk pre (kb r) else []).map row) := by
      rw [val_enc]
      by_cases h : kb r ∈ ks
      · rw [if_pos h, if_pos h]; rfl
      · rw [if_neg h, if_neg h]; rfl
    have ol : ((if kb r ∈ ks then gk pre (kb r) else []).map row).length < sizeLine := by
      have : ((if kb r ∈ ks then gk pre (kb r) else []).map row).length ≤ pre.length := by
        rw [List.length_map]
        split
        · exact List.length_filter_le _ _
        · exact Nat.zero_le _
      have := size_le (show pre.length + 1 ≤ 1000000 by omega)
      omega
    have dl : (encT ks pre).length < sizeLine := by
      have : (encT ks pre).length = ks.length := by unfold encT; rw [List.length_map]
      have := size_le (show pre.length + 1 ≤ 1000000 by omega)
      omega
    have st := tally_ok (i := 1) (j := 3) (B := eVar 2) eA (intsOf_map (kb r)) rfl (by decide : 3 < 5) (v_ok (d := row r) rfl) old ol dl
    rw [put_enc fun a ha => (hm _).mpr ⟨a, ha, rfl⟩] at st
    refine ⟨_, rfl, _, .inl (seq_one st), kin ks r, some (row r), some (.tup ((kb r).map D.int)), ?_, fun k => ?_, rfl⟩
    · unfold kin
      split
      · exact hn
      · rename_i h
        rw [List.nodup_append]
        refine ⟨hn, by simp, fun a ha b hb e => ?_⟩
        rw [List.mem_singleton] at hb
        exact h (by rw [← hb, ← e]; exact ha)
    · have : k ∈ kin ks r ↔ k ∈ ks ∨ k = kb r := by
        unfold kin
        split
        · rename_i h
          exact ⟨.inl, fun q => q.elim id fun e => e ▸ h⟩
        · simp
      rw [this, hm]
      constructor
      · rintro (⟨a, ha, e⟩ | e)
        · exact ⟨a, List.mem_append_left _ ha, e⟩
        · exact ⟨r, by simp, e.symm⟩
      · rintro ⟨a, ha, e⟩
        rcases List.mem_append.mp ha with ha | ha
        · exact .inl ⟨a, ha, e⟩
        · rw [List.mem_singleton] at ha
          exact .inr (by rw [← e, ha]))
  refine ⟨ks, hn, hm, run_rt (seq_nx (set_ok (call0_ok (f_base φ))) (seq_nx (set_ok (d := .dt []) rfl) (seq_nx (for_ok (seq_l (call0_ok (f_fours φ))) l1) (seq_rt (ret_ok ?_)))))⟩
  show (O.ok (D.dt (encT ks FO)) φ).bind _ = _
  show ofO (gSorted [.lst ((encT ks FO).map (·.2))]) φ = _
  have e : (encT ks FO).map (·.2) = (ks.map (gk FO)).map rws := by
    unfold encT
    rw [List.map_map, List.map_map]
    rfl
  rw [e, emb_rws.gSorted (by decide)]
  rfl
end Pf

set_option Elab.async false
set_option linter.all false
set_option maxRecDepth 100000
set_option maxHeartbeats 4000000
namespace Pf
open PySem PySem.Spec PyProof.Rows L2

/-! ## the frames are right: plainly -/
theorem tab2 : (all8.all fun s => FSl.count (cd s) == 0 || FSl.count (cd s) == 16) = true := by
  refine List.all_eq_true.mpr fun s _ => ?_
  rw [FSl_count]
  split <;> rfl
def S16 : List (List Int) := all8.filter fun s => FSl.count (cd s) == 16
theorem S16_len : S16.length = 135 := by
  unfold S16
  simp only [FSl_16]
  decide +kernel
theorem all8_nodup : all8.Nodup := prodL_nodup fun c hc => by rw [List.eq_of_mem_replicate hc]; decide
theorem gk_count {k : List Int} (hk : k ∈ all8) : (gk FO k).length = FSl.count (cd k) := by
  unfold gk
  rw [← FSl_is, ← List.countP_eq_length_filter]
  unfold List.count
  rw [List.countP_map]
  refine List.countP_congr fun a ha => ?_
  show decide (kb a = k) = true ↔ (cd (kb a) == cd k) = true
  rw [decide_eq_true_eq, beq_iff_eq, cd_inj (kb_in a) hk]
theorem gk_16 {a : List Int} (ha : a ∈ FO) : (gk FO (kb a)).length = 16 := by
  rw [gk_count (kb_in a)]
  have h := List.all_eq_true.mp tab2 (kb a) (kb_in a)
  rw [Bool.or_eq_true, beq_iff_eq, beq_iff_eq] at h
  rcases h with h | h
  · rw [← gk_count (kb_in a)] at h
    have h0 := List.length_eq_zero_iff.mp h
    have : a ∈ gk FO (kb a) := List.mem_filter.mpr ⟨ha, by simp⟩
    rw [h0] at this
    cases this
  · exact h
theorem keys_len {ks : List (List Int)} (hn : ks.Nodup) (hm : ∀ k, k ∈ ks ↔ ∃ a ∈ FO, kb a = k) : ks.length = 135 := by
  have h1 : ks.length ≤ S16.length := sub_len hn fun k hk => by
    obtain ⟨a, ha, rfl⟩ := (hm k).mp hk
    refine List.mem_filter.mpr ⟨kb_in a, ?_⟩
    rw [← gk_count (kb_in a), gk_16 ha]
    rfl
  have h2 : S16.length ≤ ks.length := sub_len (all8_nodup.sublist List.filter_sublist) fun k hk => by
    obtain ⟨h1, h2⟩ := List.mem_filter.mp hk
    rw [← gk_count h1, beq_iff_eq] at h2
    obtain ⟨a, ha⟩ := List.exists_mem_of_length_pos (l := gk FO k) (by omega)
    obtain ⟨ha1, ha2⟩ := List.mem_filter.mp ha
    exact (hm k).mpr ⟨a, ha1, by simpa using ha2⟩
  rw [S16_len] at h1 h2
  omega
theorem filt_two {α : Type} (p q : α → Bool) : ∀ l : List α, (∀ a ∈ l, ¬ (p a = true ∧ q a = true)) → (l.filter p ++ l.filter q).Perm (l.filter fun a => p a || q a)
  | [], _ => .refl _
  | a :: l, h => by
    have ih := filt_two p q l fun b hb => h b (List.mem_cons_of_mem _ hb)
    have ha := h a List.mem_cons_self
    cases hp : p a with
    | true =>
      have hq : q a = false := by
        cases hq : q a with
        | false => rfl
        | true => exact absurd ⟨hp, hq⟩ ha
      rw [List.filter_cons_of_pos hp, List.filter_cons_of_neg (by rw [hq]; decide), List.filter_cons_of_pos (by rw [hp]; rfl)]
      exact ih.cons a
    | false =>
      cases hq : q a with
      | false =>
        rw [List.filter_cons_of_neg (by rw [hp]; decide), List.filter_cons_of_neg (by rw [hq]; decide), List.filter_cons_of_neg (by rw [hp, hq]; decide)]
        exact ih
      | true =>
        rw [List.filter_cons_of_neg (by rw [hp]; decide), List.filter_cons_of_pos hq, List.filter_cons_of_pos (by rw [hp, hq]; rfl)]
        exact List.perm_middle.trans (ih.cons a)
theorem part_perm (l : List (List Int)) : ∀ {ks : List (List Int)}, ks.Nodup → ((ks.map (gk l)).flatten).Perm (l.filter fun a => decide (kb a ∈ ks))
  | [], _ => by simp
  | k :: ks, h => by
    rw [List.nodup_cons] at h
    rw [List.map_cons, List.flatten_cons]
    refine ((List.Perm.refl _).append (part_perm l h.2)).trans ?_
    unfold gk
    have dj : ∀ a ∈ l, ¬ (decide (kb a = k) = true ∧ decide (kb a ∈ ks) = true) := fun a _ ⟨h1, h2⟩ => h.1 (by
      have e1 := of_decide_eq_true h1
      rw [← e1]
      exact of_decide_eq_true h2)
    refine (filt_two _ _ l dj).trans ?_
    rw [show (fun a => decide (kb a = k) || decide (kb a ∈ ks)) = fun a => decide (kb a ∈ k :: ks) from by funext a; simp [List.mem_cons]]
theorem part_all {ks : List (List Int)} (hn : ks.Nodup) (hm : ∀ k, k ∈ ks ↔ ∃ a ∈ FO, kb a = k) : ((ks.map (gk FO)).flatten).Perm FO := by
  have := part_perm FO hn
  rwa [List.filter_eq_self.mpr fun a ha => by simpa using (hm _).mpr ⟨a, ha, rfl⟩] at this
def hk (own : List (List Int)) : List Int := kb (own.headD [])
theorem gk_head {a : List Int} (ha : a ∈ FO) : ∃ h t, gk FO (kb a) = h :: t ∧ h ∈ FO ∧ kb h = kb a := by
  cases hg : gk FO (kb a) with
  | nil => have := gk_16 ha; rw [hg] at this; cases this
  | cons h t =>
    have : h ∈ gk FO (kb a) := by rw [hg]; exact List.mem_cons_self
    obtain ⟨h1, h2⟩ := List.mem_filter.mp this
    exact ⟨h, t, rfl, h1, by simpa using h2⟩
theorem FO_le : FO.Pairwise fun a b => leL ltR a b = true := FO_asc.imp fun {a b} h => by
  unfold leL
  rw [tot_row.asym h]
  rfl
end Pf

set_option Elab.async false
set_option linter.all false
set_option maxRecDepth 100000
set_option maxHeartbeats 400000
namespace Pf
open PySem PySem.Spec PyProof.Rows L2
noncomputable abbrev lb__law_frames_right_1 : SS := (sSeq (sIf (bOr (bNot (bTru (eUn (gIsi "list") (eVar 5)))) (bOr (bCmp gNe (eCB gLen (aCons (eVar 5) aNil)) (eInt 16)) (bNot (bTru (eCall (F__law_same 8) (aCons (eVar 5) (aCons (eCB gSorted (aCons (eVar 5) aNil)) aNil))))))) (sSeq (sRet (eBl false)) sNil) sNil) (sSeq (sSet 3 (eBin gAdd (eVar 3) (eVar 5))) (sSeq (sMut 4 gApp (eLc (iSeq (eVar 1)) (tgN 7) bYes (eBin gMod (eCB gInt (aCons (eCall F__law_times (aCons (eVar 7) (aCons (eBin gIx (eVar 5) (eInt 0)) aNil))) aNil)) (eInt 2)) [7])) (sSeq (sFor (iSeq (eVar 5)) (tgN 6) (sSeq (sIf (bOr (bNot (bTru (eCall F__law_is_twice (aCons (eCall F__law_less (aCons (eVar 6) (aCons (eBin gIx (eVar 5) (eInt 0)) (aCons (eInt 1) aNil)))) aNil)))) (bCmp (gIn true) (eCall F__law_times (aCons (eVar 6) (aCons (eBin gIx (eVar 5) (eInt 0)) aNil))) (eLst (aCons (eInt 0) (aCons (eInt 4) (aCons (eUn gNeg (eInt 4)) aNil)))))) (sSeq (sRet (eBl false)) sNil) sNil) sNil)) sNil))))
noncomputable abbrev lb__law_frames_right_2 : SS := (sSeq (sIf (bOr (bNot (bTru (eCall F__law_is_twice (aCons (eCall F__law_less (aCons (eVar 6) (aCons (eBin gIx (eVar 5) (eInt 0)) (aCons (eInt 1) aNil)))) aNil)))) (bCmp (gIn true) (eCall F__law_times (aCons (eVar 6) (aCons (eBin gIx (eVar 5) (eInt 0)) aNil))) (eLst (aCons (eInt 0) (aCons (eInt 4) (aCons (eUn gNeg (eInt 4)) aNil)))))) (sSeq (sRet (eBl false)) sNil) sNil) sNil)

theorem bs_small : ∀ b ∈ bs, ∀ x ∈ b, x.natAbs ≤ 2 := by decide
theorem bs_rw : ∀ b ∈ bs, Rw b := fun b hb => ⟨(bs_lat b hb).1, fun x hx => by have := bs_small b hb x hx; omega⟩
theorem f_framesright {F : List (List Int)} (hFO : F = FO) (φ : Fd) : F__law_frames_right [rws F] φ = .ok (.bl true) φ := by
  obtain ⟨ks, hn, hm, e2⟩ := f_frames φ
  obtain ⟨L, hL⟩ : ∃ L, L = (ks.map (gk FO)).mergeSort (leL ltRR) := ⟨_, rfl⟩
  rw [← hL] at e2
  have hp : L.Perm (ks.map (gk FO)) := by rw [hL]; exact List.mergeSort_perm _ _
  have hlen : L.length = 135 := by rw [hp.length_eq, List.length_map, keys_len hn hm]
  have each : ∀ own ∈ L, ∃ a ∈ FO, own = gk FO (kb a) := fun own ho => by
    obtain ⟨k, hk, rfl⟩ := List.mem_map.mp (hp.mem_iff.mp ho)
    obtain ⟨a, ha, rfl⟩ := (hm k).mp hk
    exact ⟨a, ha, rfl⟩
  have hflat : L.flatten.Perm FO := hp.flatten.trans (part_all hn hm)
  have t0 : bOr (bNot (bTru (eUn (gIsi "list") (eVar 2)))) (bCmp gNe (eCB gLen (aCons (eVar 2) aNil)) (eInt 135)) [some (rws F), some (rws bs), some (.lst (L.map rws)), none, none, none, none, none] φ = .ok false φ := by
    refine or_no (not_ok (b := true) (trub_ok (un_ok (v_ok rfl) rfl))) (cmp_ok (len_ok (v_ok rfl)) rfl ((ne_int _ _).trans ?_))
    rw [List.length_map, hlen]
    rfl
  obtain ⟨ρ', l1, y5, y6, rfl⟩ := for_inv (T := tgN 5) (φ := φ) (e := rws) (B := lb__law_frames_right_1)
    (fun pre ρ => ∃ y5 y6, ρ = [some (rws F), some (rws bs), some (.lst (L.map rws)), some (rws pre.flatten), some (rws (pre.map hk)), y5, y6, none]) L [] (ρ := [some (rws F), some (rws bs), some (.lst (L.map rws)), some (rws []), some (rws []), none, none, none]) ⟨none, none, rfl⟩ (by
    rintro pre own post ρ hpp ⟨y5, y6, rfl⟩
    have ho : own ∈ L := by rw [show L = pre ++ own :: post from hpp]; simp
    obtain ⟨a, ha, ea⟩ := each own ho
    obtain ⟨h, t, eh, hF, hkb⟩ := gk_head ha
    have o16 : own.length = 16 := by rw [ea]; exact gk_16 ha
    have oht : own = h :: t := ea.trans eh
    have memo : ∀ x ∈ own, x ∈ FO ∧ kb x = kb h := fun x hx => by
      rw [ea] at hx
      obtain ⟨h1, h2⟩ := List.mem_filter.mp hx
      exact ⟨h1, by rw [hkb]; simpa using h2⟩
    have osort : own.mergeSort (leL ltR) = own := sort_is tot_row (by rw [ea]; exact FO_le.sublist List.filter_sublist) (.refl _)
    have flen : pre.flatten.length + own.length ≤ 2160 := by
      have h1 := hflat.length_eq
      rw [FO_len, show L = pre ++ own :: post from hpp, List.flatten_append, List.length_append, List.flatten_cons, List.length_append] at h1
      omega
    have plen : pre.length ≤ 135 := by
      have h1 := congrArg List.length hpp
      rw [List.nil_append, hlen, List.length_append] at h1
      omega
    have pl2 : pln 2 (rws own) = true := pln_map (n := 1) (by omega) fun x hx => pln_row (by rw [(FO_rw (memo x hx).1).1]; decide)
    have ix : gIx (rws own) (.int 0) = some (row h) := by rw [oht]; exact gIx_rows (k := 0) (rows := h :: t) (by rw [List.length_cons]; omega)
    have hR : Rw h := FO_rw hF
    have t1 : bOr (bNot (bTru (eUn (gIsi "list") (eVar 5)))) (bOr (bCmp gNe (eCB gLen (aCons (eVar 5) aNil)) (eInt 16)) (bNot (bTru (eCall (F__law_same 8) (aCons (eVar 5) (aCons (eCB gSorted (aCons (eVar 5) aNil)) aNil)))))) [some (rws F), some (rws bs), some (.lst (L.map rws)), some (rws pre.flatten), some (rws (pre.map hk)), some (rws own), y6, none] φ = .ok false φ := by
      refine or_no (not_ok (b := true) (trub_ok (un_ok (v_ok rfl) rfl))) (or_no (cmp_ok (len_ok (v_ok rfl)) rfl ((ne_int _ _).trans ?_)) (not_ok (b := true) (trub_ok (call_ok (two_ok (v_ok rfl) (cb1_ok (z := rws own) (v_ok rfl) ?_)) (same8 φ pl2)))))
      · rw [List.length_map, o16]; rfl
      · refine (emb_row.gSorted (by decide) own).trans ?_
        rw [osort]
        rfl
    have s3 : sSet 3 (eBin gAdd (eVar 3) (eVar 5)) [some (rws F), some (rws bs), some (.lst (L.map rws)), some (rws pre.flatten), some (rws (pre.map hk)), some (rws own), y6, none] φ = .nx [some (rws F), some (rws bs), some (.lst (L.map rws)), some (rws (pre ++ [own]).flatten), some (rws (pre.map hk)), some (rws own), y6, none] φ := by
      refine set_ok (d := rws (pre ++ [own]).flatten) (bin_ok (v_ok rfl) (v_ok rfl) ?_)
      refine (gAdd_l (by rw [List.length_map, List.length_map]; omega)).trans ?_
      rw [← List.map_append]
      unfold rws
      simp
    have s4 : sMut 4 gApp (eLc (iSeq (eVar 1)) (tgN 7) bYes (eBin gMod (eCB gInt (aCons (eCall F__law_times (aCons (eVar 7) (aCons (eBin gIx (eVar 5) (eInt 0)) aNil))) aNil)) (eInt 2)) [7]) [some (rws F), some (rws bs), some (.lst (L.map rws)), some (rws (pre ++ [own]).flatten), some (rws (pre.map hk)), some (rws own), y6, none] φ = .nx [some (rws F), some (rws bs), some (.lst (L.map rws)), some (rws (pre ++ [own]).flatten), some (rws ((pre ++ [own]).map hk)), some (rws own), y6, none] φ := by
      have e4 : eLc (iSeq (eVar 1)) (tgN 7) bYes (eBin gMod (eCB gInt (aCons (eCall F__law_times (aCons (eVar 7) (aCons (eBin gIx (eVar 5) (eInt 0)) aNil))) aNil)) (eInt 2)) [7] [some (rws F), some (rws bs), some (.lst (L.map rws)), some (rws (pre ++ [own]).flatten), some (rws (pre.map hk)), some (rws own), y6, none] φ = .ok (row (hk own)) φ := by
        have hkv : hk own = bs.map fun b => (dot h b).fmod 2 := by rw [oht]; rfl
        have hkm : bs.map (fun b => D.int ((dot b h).fmod 2)) = (hk own).map D.int := by
          rw [hkv, List.map_map]
          refine List.map_congr_left fun b _ => ?_
          rw [dot_comm]
          rfl
        have e5 := lcm_ok (T := tgN 7) (elt := eBin gMod (eCB gInt (aCons (eCall F__law_times (aCons (eVar 7) (aCons (eBin gIx (eVar 5) (eInt 0)) aNil))) aNil)) (eInt 2)) (vs := [7]) (ρ := [some (rws F), some (rws bs), some (.lst (L.map rws)), some (rws (pre ++ [own]).flatten), some (rws (pre.map hk)), some (rws own), y6, none]) (φ1 := φ) bs row (fun b => D.int ((dot b h).fmod 2)) (seq_l (A := eVar 1) (v_ok rfl)) (by decide) fun b hb => ⟨_, rfl, bin_ok (cb1_ok (call_ok (two_ok (v_ok rfl) (bin_ok (v_ok rfl) rfl ix)) (f_ltimes φ (bs_rw b hb) hR)) rfl) rfl (gMod_ok (by decide))⟩
        rw [hkm] at e5
        exact e5
      have ee : D.lst ((pre.map hk).map row ++ [row (hk own)]) = rws ((pre ++ [own]).map hk) := by
        unfold rws
        rw [List.map_append (l₁ := pre), List.map_append (l₁ := pre.map hk)]
        rfl
      rw [app_ok (i := 4) (l := (pre.map hk).map row) rfl e4 (by
        rw [List.length_map, List.length_map]
        have := size_le (show pre.length + 1 ≤ 1000000 by omega)
        omega), ee]
      rfl
    obtain ⟨ρ6, l6, z6, rfl⟩ := for_inv (T := tgN 6) (φ := φ) (e := row) (B := lb__law_frames_right_2)
      (fun q ρ => ∃ z6, ρ = [some (rws F), some (rws bs), some (.lst (L.map rws)), some (rws (pre ++ [own]).flatten), some (rws ((pre ++ [own]).map hk)), some (rws own), z6, none]) own [] (ρ := [some (rws F), some (rws bs), some (.lst (L.map rws)), some (rws (pre ++ [own]).flatten), some (rws ((pre ++ [own]).map hk)), some (rws own), y6, none]) ⟨y6, rfl⟩ (by
      rintro q one r ρ hq ⟨z6, rfl⟩
      have hone : one ∈ own := by rw [show own = q ++ one :: r from hq]; simp
      obtain ⟨oF, okb⟩ := memo one hone
      have lo := (FO_mem.mp oF).1
      have lh := (FO_mem.mp hF).1
      have tw : twb (less one h 1) = true := by rw [twb_kb lo lh, okb]; simp
      have dt : dot one h = 0 ∨ dot one h = 4 ∨ dot one h = -4 := alike_dot lh ((alike_kb lh oF).mpr okb) ((alike_kb lh hF).mpr rfl)
      refine ⟨_, rfl, _, .inl (seq_one (if_skip (or_no (not_ok (b := true) (trub_ok (call_ok (one_ok (call_ok (cons_ok (v_ok rfl) (two_ok (bin_ok (v_ok rfl) rfl ix) rfl)) (f_lless φ (FO_rw oF) hR (by decide)))) ((f_ltwice φ (less_l8 lo.1 lh.1)).trans (by rw [tw]))))) (cmp_ok (b := false) (call_ok (two_ok (v_ok rfl) (bin_ok (v_ok rfl) rfl ix)) (f_ltimes φ (FO_rw oF) hR)) (e := row [0, 4, -4]) rfl ((notin_ints _ _).trans ?_))))), some (row one), rfl⟩
      rcases dt with e | e | e <;> rw [e] <;> rfl)
    exact ⟨_, rfl, _, .inl (seq_nx (if_skip t1) (seq_nx s3 (seq_nx s4 (seq_one (for_ok (seq_l (v_ok rfl)) l6))))), _, _, rfl⟩)
  rw [List.nil_append] at l1
  have r1 : eBin gEq (eCB gSorted (aCons (eVar 3) aNil)) (eVar 0) [some (rws F), some (rws bs), some (.lst (L.map rws)), some (rws L.flatten), some (rws (L.map hk)), y5, y6, none] φ = .ok (.bl true) φ := by
    refine bin_ok (cb1_ok (z := rws FO) (v_ok rfl) ?_) (v_ok rfl) (z := .bl true) ?_
    · refine (emb_row.gSorted (by decide) L.flatten).trans ?_
      rw [sort_is tot_row FO_le hflat.symm]
      rfl
    · rw [hFO]; exact (emb_rws.gEq (by decide) FO FO).trans (by simp)
  have embL : Emb (fun xs : List (List (List Int)) => D.lst (xs.map rws)) (ltL ltRR) 3 := emb_rws.list
  have r2 : eBin gEq (eVar 2) (eCB gSorted (aCons (eVar 2) aNil)) [some (rws F), some (rws bs), some (.lst (L.map rws)), some (rws L.flatten), some (rws (L.map hk)), y5, y6, none] φ = .ok (.bl true) φ := by
    refine bin_ok (v_ok rfl) (cb1_ok (z := .lst (L.map rws)) (v_ok rfl) ?_) ((embL.gEq (by decide) L L).trans (by simp))
    refine (emb_rws.gSorted (by decide) L).trans ?_
    rw [sort_is tot_rws (by rw [hL]; exact sort_pw tot_rws _) (.refl _)]
  have hmap : (L.map hk).Perm ks := by
    have h1 := hp.map hk
    rw [List.map_map] at h1
    have h2 : ks.map (hk ∘ gk FO) = ks := by
      have : ks.map (hk ∘ gk FO) = ks.map id := List.map_congr_left fun k hk' => by
        obtain ⟨a, ha, rfl⟩ := (hm k).mp hk'
        obtain ⟨h, t, eh, _, hkb⟩ := gk_head ha
        show kb ((gk FO (kb a)).headD []) = kb a
        rw [eh]
        exact hkb
      rw [this, List.map_id]
    rw [h2] at h1
    exact h1
  have oneL : (once ltR (L.map hk)).length = 135 := by
    have hnd : (L.map hk).Nodup := hmap.nodup_iff.mpr hn
    have h1 := once_len (lt := ltR) (L.map hk)
    have h2 := sub_len hnd (m := once ltR (L.map hk)) fun x hx => (once_mem _ _).mpr hx
    rw [List.length_map, hlen] at h1 h2
    omega
  have r3 : eBin gEq (eCB gLen (aCons (eCall F__law_each (aCons (eVar 4) aNil)) aNil)) (eInt 135) [some (rws F), some (rws bs), some (.lst (L.map rws)), some (rws L.flatten), some (rws (L.map hk)), y5, y6, none] φ = .ok (.bl true) φ := by
    refine bin_ok (len_ok (call_ok (one_ok (v_ok rfl)) (f_leach emb_row (by decide) (L.map hk) φ (by rw [List.length_map, hlen]; decide)))) rfl ((eq_int _ _).trans ?_)
    rw [List.length_map, oneL]
    rfl
  exact run_rt (seq_nx (set_ok (call0_ok (f_lbase φ))) (seq_nx (set_ok (call0_ok e2)) (seq_nx (if_skip t0) (seq_nx (set_ok (d := rws []) rfl) (seq_nx (set_ok (d := rws []) rfl) (seq_nx (for_ok (seq_l (v_ok rfl)) l1) (seq_rt (ret_ok (eand_val (a := true) (b := true) r1 (eand_val (a := true) (b := true) r2 r3))))))))))
end Pf

set_option Elab.async false
set_option linter.all false
set_option maxRecDepth 100000
set_option maxHeartbeats 1000000
namespace Pf
open PySem PySem.Spec PyProof.Rows L2

theorem shp2 {α : Type} [DecidableEq α] {f : α → D} {lt : α → α → Bool} {n : Nat} (h : Emb f lt n) (hn : n ≤ 60) (s : Str) (x : α) (hs : PyData.strOk s = true) : (D.tup [.str s, f x]).shp = true := by
  have h1 := h.lay x
  have h2 := h.dep x
  show (PyData.canLay0 (.tuple [.str s, (f x).py]) && decide (PyData.depth (.tuple [.str s, (f x).py]) ≤ 64)) = true
  rw [Bool.and_eq_true, decide_eq_true_eq]
  constructor
  · simp [PyData.canLay0, PyData.canLayAll0, h1, hs]
  · simp only [PyData.depth, PyData.depthAll]
    omega
theorem rest_shp (R : List Int) : (restD R).shp = true := by
  unfold restD
  split
  · kernel_rfl
  · split
    · exact shp2 emb_row (by decide) _ _ (by kernel_rfl)
    · exact shp2 emb_rws (by decide) _ _ (by kernel_rfl)
theorem gIx_tup {l : List D} {k : Nat} {x : D} (h : l[k]? = some x) : gIx (.tup l) (.int (k : Int)) = some x := by
  show atI l (k : Int) = _
  rw [atI_nat h]
theorem sE1 : gEq (.str "nothing") (.str "pair") = some (.bl false) := by kernel_rfl
theorem sE2 : gEq (.str "nothing") (.str "frame") = some (.bl false) := by kernel_rfl
theorem sE3 : gEq (.str "pair") (.str "pair") = some (.bl true) := by kernel_rfl
theorem sE4 : gEq (.str "pair") (.str "frame") = some (.bl false) := by kernel_rfl
theorem sE5 : gEq (.str "frame") (.str "pair") = some (.bl false) := by kernel_rfl
theorem sE6 : gEq (.str "frame") (.str "frame") = some (.bl true) := by kernel_rfl
theorem sE0 : gEq (.str "nothing") (.str "nothing") = some (.bl true) := by kernel_rfl
/-! ## statements about a name that lies apart -/
theorem fresh_ok {i y : Nat} {F : Fn} {B : SS} {ρ : En} {φ φ1 : Fd} {r : R} {ns : List Int} {z : D} (hy : ρ[y]? = some (some (row ns))) (hi : i < ρ.length) (hiy : i ≠ y) (hF : F [row ns] (nofeed φ) = .ok z φ1) (hs : z.shp = true) (hm : z.mt = false) (hB : B (ρ.set i (some z)) φ = r) : sFresh i y F B ρ φ = r := by
  unfold sFresh
  rw [hy]
  have h1 : (intsOf (ns.map D.int)).isSome = true := by rw [intsOf_map]; rfl
  show (if i < ρ.length ∧ i ≠ y ∧ (intsOf (ns.map D.int)).isSome = true then (match F [row ns] (nofeed φ) with
      | .ok z _ => if z.shp = true ∧ z.mt = false then B (ρ.set i (some z)) φ else .bad
      | _ => .bad) else .bad) = _
  rw [if_pos ⟨hi, hiy, h1⟩, hF]
  show (if z.shp = true ∧ z.mt = false then B (ρ.set i (some z)) φ else .bad) = _
  rw [if_pos ⟨hs, hm⟩]
  exact hB
theorem ifD_skip {i : Nat} {T : SB} {Bb : SS} {ρ : En} {φ : Fd} (h : T ρ φ = .ok false φ) : sIfD i T Bb ρ φ = .nx ρ φ := by unfold sIfD; rw [h]
theorem ifE_skip {i : Nat} {T : SB} {Bb : SS} {ρ : En} {φ : Fd} (h : T ρ φ = .ok false φ) : sIfE i T Bb ρ φ = .nx ρ φ := by unfold sIfE; rw [h]
theorem ifE_yes {i : Nat} {T : SB} {Bb : SS} {ρ ρ1 : En} {φ : Fd} (h : T ρ φ = .ok true φ) (h1 : Bb ρ φ = .nx ρ1 φ) (hn : ρ1[i]? = some none) : sIfE i T Bb ρ φ = .nx ρ1 φ := by
  unfold sIfE
  rw [h]
  simp only [h1, hn]
  rfl
theorem hid_ok {i j : Nat} {A : SX} {ρ : En} {φ : Fd} {d : D} (h : A (ρ.set i none) φ = .ok d φ) : sHid i (sSet j A) ρ φ = .nx (((ρ.set i none).set j (some d)).set i (ρ[i]?.getD none)) φ := by
  unfold sHid sSet
  rw [h]
  rfl
theorem pokeT_ok {i k : Nat} {A : SX} {ρ : En} {φ : Fd} {ds es : List D} {d : D} (hi : ρ[i]? = some (some (.tup ds))) (hk : ds[k]? = some (.lst es)) (hl : es.length < sizeLine) (hA : A (ρ.set i none) φ = .ok d φ) : sPokeT i k A ρ φ = .nx (ρ.set i none) φ := by
  unfold sPokeT
  rw [hi]
  simp only [hk]
  rw [if_pos hl, hA]
  rfl
theorem gint_bl (b : Bool) : gInt [D.bl b] = some (.int (if b = true then 1 else 0)) := by cases b <;> rfl
/-! ## what rest_by_two tells -/
inductive Cs (R : List Int) : D → Prop
  | no : qq R = 0 → Cs R (.tup [.str "nothing"])
  | pair (r : List Int) : r.length = 8 → qq R = 1 → Cs R (.tup [.str "pair", row r])
  | frame (A : List (List Int)) : A.length = 16 → (∀ x ∈ A, x ∈ FO) → (∀ x ∈ A, ∀ y ∈ A, dot x y = 0 ∨ dot x y = 4 ∨ dot x y = -4) → qq R = 0 → Cs R (.tup [.str "frame", rws A])
theorem rest_cs {R : List Int} (hR : Lat R) : Cs R (restD R) := by
  unfold restD
  by_cases ht : twb R = true
  · rw [if_pos ht]
    exact .no (q_tw hR (tw_iff.mp ht))
  · rw [if_neg ht]
    cases hl : (RL R).getLast? with
    | some r =>
      have hr : r ∈ RL R := List.mem_of_getLast? hl
      unfold RL at hr
      obtain ⟨h1, h2⟩ := List.mem_filter.mp hr
      exact .pair r (RT_l8 h1) (q_pair hR h1 (tw_iff.mp h2))
    | none =>
      have e : RL R = [] := List.getLast?_eq_none_iff.mp hl
      have h16 : (alikeR R).length = 16 := by
        rcases cls hR with h | ⟨r, hr, h⟩ | h
        · exact absurd (tw_iff.mpr h) ht
        · have : r ∈ RL R := List.mem_filter.mpr ⟨hr, tw_iff.mpr h⟩
          rw [e] at this
          cases this
        · exact h
      show Cs R (.tup [.str "frame", rws (FR R)])
      rw [FR_FO hR]
      obtain ⟨a, ha⟩ := List.exists_mem_of_length_pos (l := alikeR R) (by omega)
      exact .frame (alikeR R) h16 (fun x hx => (List.mem_filter.mp hx).1) (fun x hx y hy => alike_dot hR hx hy) (q_four hR ha)
theorem rest_mt (R : List Int) : (restD R).mt = false := by
  unfold restD
  split
  · rfl
  · split <;> rfl
theorem cs_pln {R : List Int} {T : D} (h : Cs R T) : pln 3 T = true := by
  cases h with
  | no _ => exact pln_le (n := 1) (by kernel_rfl) (by decide)
  | pair r h8 _ =>
    show (decide ([D.str "pair", row r].length ≤ 1000000) && [D.str "pair", row r].all (pln 2)) = true
    have h1 : pln 2 (D.str "pair") = true := by kernel_rfl
    have h2 : pln 2 (row r) = true := pln_le (pln_row (by omega)) (by decide)
    simp [h1, h2]
  | frame A h16 hF _ _ =>
    show (decide ([D.str "frame", rws A].length ≤ 1000000) && [D.str "frame", rws A].all (pln 2)) = true
    have h1 : pln 2 (D.str "frame") = true := by kernel_rfl
    have h2 : pln 2 (rws A) = true := pln_map (n := 1) (by omega) fun x hx => pln_row (by rw [(FO_rw (hF x hx)).1]; decide)
    simp [h1, h2]
end Pf

set_option Elab.async false
set_option linter.all false
set_option maxRecDepth 100000
set_option maxHeartbeats 1000000
namespace Pf
open PySem PySem.Spec PyProof.Rows L2

theorem f_right' {R F : List (List Int)} {r : List Int} {T : D} (hRw : Rw r) (hcs : Cs r T) (hs : T.shp = true) (hm : T.mt = false) (e_due : ∀ φ, F__law_due [rws RT, rws F, row r] φ = .ok T φ) (e_rest : ∀ φ, F_rest_by_two [row r] φ = .ok T φ) (φ : Fd) : F__law_right [rws RT, rws F, row r] φ = .ok (.bl true) φ := by
  have hp := cs_pln hcs
  have t1 : (bOr (bNot (bTru (eCall (F__law_same 8) (aCons (eVar 5) (aCons (eVar 4) aNil))))) (bCmp gNe (eVar 3) (eVar 2))) [some (rws RT), some (rws F), some (row r), some (row r), some T, some T, none, none, none] φ = .ok false φ :=
    or_no (not_ok (b := true) (trub_ok (call_ok (two_ok (v_ok rfl) (v_ok rfl)) (same8 φ hp)))) (cmp_ok (v_ok rfl) (v_ok rfl) ((emb_row.gNe (by decide) r r).trans (by simp)))
  have e6 : (eBin gMod (eCB gInt (aCons (eBin gDiv (eCall F__law_times (aCons (eVar 2) (aCons (eVar 2) aNil))) (eInt 2)) aNil)) (eInt 2)) [some (rws RT), some (rws F), some (row r), some (row r), some T, none, none, none, none] φ = .ok (.int (qq r)) φ :=
    bin_ok (cb1_ok (bin_ok (call_ok (two_ok (v_ok rfl) (v_ok rfl)) (f_ltimes φ hRw hRw)) rfl (gDiv_ok (by decide) (by decide))) rfl) rfl (gMod_ok (by decide))
  have s6 : sHid 5 (sSet 6 (eBin gMod (eCB gInt (aCons (eBin gDiv (eCall F__law_times (aCons (eVar 2) (aCons (eVar 2) aNil))) (eInt 2)) aNil)) (eInt 2))) [some (rws RT), some (rws F), some (row r), some (row r), some T, some T, none, none, none] φ = .nx [some (rws RT), some (rws F), some (row r), some (row r), some T, some T, some (.int (qq r)), none, none] φ := hid_ok e6
  have sm : (eCall F_sum_by_two (aCons (eVar 3) aNil)) [some (rws RT), some (rws F), some (row r), some (row r), some T, some T, some (.int (qq r)), none, none] φ = .ok (.int (qq r)) φ := call_ok (one_ok (v_ok rfl)) (f_sum2 φ hRw.2 hRw.1)
  have pq : pln 0 (D.int (qq r)) = true := by
    have : qq r = 0 ∨ qq r = 1 := by unfold qq; rw [fm2']; omega
    rcases this with e | e <;> rw [e] <;> kernel_rfl
  have t3 : ∀ (nm : Str) (b : Bool), gIx T (.int 0) = some (.str nm) → gEq (.str nm) (.str "pair") = some (.bl b) → (qq r = if b = true then 1 else 0) →
      (bOr (bNot (bTru (eCall (F__law_same 8) (aCons (eCall F_sum_by_two (aCons (eVar 3) aNil)) (aCons (eVar 6) aNil))))) (bCmp gNe (eVar 6) (eCB gInt (aCons (eBin gEq (eBin gIx (eVar 4) (eInt 0)) (eStr "pair")) aNil)))) [some (rws RT), some (rws F), some (row r), some (row r), some T, some T, some (.int (qq r)), none, none] φ = .ok false φ := fun nm b h1 h2 h3 =>
    or_no (not_ok (b := true) (trub_ok (call_ok (two_ok sm (v_ok rfl)) (same8 φ pq)))) (cmp_ok (v_ok rfl) (cb1_ok (bin_ok (bin_ok (v_ok rfl) rfl h1) rfl h2) (gint_bl b)) ((ne_int _ _).trans (by rw [h3]; simp)))
  have last : ∀ (y6 y7 y8 : Option D), (sEndT 5 (sSeq (sRet (eCall (F__law_same 8) (aCons (eCall F_rest_by_two (aCons (eVar 3) aNil)) (aCons (eVar 4) aNil)))) sNil)) [some (rws RT), some (rws F), some (row r), some (row r), some T, none, y6, y7, y8] φ = .rt (.bl true) φ := fun y6 y7 y8 =>
    seq_rt (ret_ok (call_ok (two_ok (call_ok (one_ok (v_ok rfl)) (e_rest φ)) (v_ok rfl)) (same8 φ hp)))
  have last2 : ∀ (y6 y7 y8 : Option D), (sEndT 5 (sSeq (sRet (eCall (F__law_same 8) (aCons (eCall F_rest_by_two (aCons (eVar 3) aNil)) (aCons (eVar 4) aNil)))) sNil)) [some (rws RT), some (rws F), some (row r), some (row r), some T, some T, y6, y7, y8] φ = .rt (.bl true) φ := fun y6 y7 y8 => last y6 y7 y8
  refine run_rt (seq_nx (set_ok (d := row r) (cb1_ok (v_ok rfl) rfl)) (seq_nx (set_ok (call_ok (cons_ok (v_ok rfl) (two_ok (v_ok rfl) (v_ok rfl))) (e_due φ))) (fresh_ok (ns := r) rfl (by rw [List.length_set, List.length_set]; exact (by decide : 5 < 9)) (by decide) (e_rest _) hs hm (seq_nx (ifD_skip t1) (seq_nx s6 ?_)))))
  cases hcs with
  | no hq =>
    refine seq_nx (ifD_skip (t3 _ false (gIx_tup (k := 0) rfl) sE1 (by rw [hq]; rfl))) (seq_nx (ifE_skip (cmp_ok (bin_ok (v_ok rfl) rfl (gIx_tup (k := 0) rfl)) rfl sE2)) (seq_nx (ifE_skip (cmp_ok (bin_ok (v_ok rfl) rfl (gIx_tup (k := 0) rfl)) rfl sE1)) (last2 _ _ _)))
  | pair x h8 hq =>
    refine seq_nx (ifD_skip (t3 _ true (gIx_tup (k := 0) rfl) sE3 (by rw [hq]; rfl))) (seq_nx (ifE_skip (cmp_ok (bin_ok (v_ok rfl) rfl (gIx_tup (k := 0) rfl)) rfl sE4)) (seq_nx (ifE_yes (ρ1 := [some (rws RT), some (rws F), some (row r), some (row r), some (.tup [.str "pair", row x]), none, some (.int (qq r)), none, none]) (cmp_ok (bin_ok (v_ok rfl) rfl (gIx_tup (k := 0) rfl)) rfl sE3) (pokeT_ok (ds := [.str "pair", row x]) (es := x.map D.int) (d := .int 0) rfl rfl (by
      rw [List.length_map, h8]
      have := size_le (show 9 ≤ 1000000 by decide)
      omega) rfl) rfl) (last _ _ _)))
  | frame A h16 hF hd hq =>
    cases A with
    | nil => cases h16
    | cons h t =>
      have ix0 : gIx (rws (h :: t)) (.int 0) = some (row h) := gIx_rows (k := 0) (rows := h :: t) (by rw [List.length_cons]; omega)
      have s7 : sHid 5 (sSet 7 (eBin gIx (eVar 4) (eInt 1))) [some (rws RT), some (rws F), some (row r), some (row r), some (.tup [.str "frame", rws (h :: t)]), some (.tup [.str "frame", rws (h :: t)]), some (.int (qq r)), none, none] φ = .nx [some (rws RT), some (rws F), some (row r), some (row r), some (.tup [.str "frame", rws (h :: t)]), some (.tup [.str "frame", rws (h :: t)]), some (.int (qq r)), some (rws (h :: t)), none] φ := hid_ok (bin_ok (v_ok rfl) rfl (gIx_tup (k := 1) rfl))
      have lc : (eLc (iSeq (eVar 7)) (tgN 8) (bCmp (gIn true) (eCall F__law_times (aCons (eVar 8) (aCons (eBin gIx (eVar 7) (eInt 0)) aNil))) (eLst (aCons (eInt 0) (aCons (eInt 4) (aCons (eUn gNeg (eInt 4)) aNil))))) (eVar 8) [8]) [some (rws RT), some (rws F), some (row r), some (row r), some (.tup [.str "frame", rws (h :: t)]), some (.tup [.str "frame", rws (h :: t)]), some (.int (qq r)), some (rws (h :: t)), none] φ = .ok (.lst (((h :: t).filter fun _ => false).map row)) φ := by
        refine lc_ok (h :: t) row (fun _ => false) row (seq_l (v_ok rfl)) (size_le (by omega)) fun x hx => ⟨_, rfl, cmp_ok (call_ok (two_ok (v_ok rfl) (bin_ok (v_ok rfl) rfl ix0)) (f_ltimes φ (FO_rw (hF x hx)) (FO_rw (hF h List.mem_cons_self)))) (e := row [0, 4, -4]) rfl ((notin_ints _ _).trans ?_), fun q => by cases q⟩
        rcases hd x hx h List.mem_cons_self with e | e | e <;> rw [e] <;> rfl
      have t7 : (bOr (bCmp gNe (eCB gLen (aCons (eVar 7) aNil)) (eInt 16)) (bCmp gGtA (eCB gLen (aCons (eLc (iSeq (eVar 7)) (tgN 8) (bCmp (gIn true) (eCall F__law_times (aCons (eVar 8) (aCons (eBin gIx (eVar 7) (eInt 0)) aNil))) (eLst (aCons (eInt 0) (aCons (eInt 4) (aCons (eUn gNeg (eInt 4)) aNil))))) (eVar 8) [8]) aNil)) (eInt 0))) [some (rws RT), some (rws F), some (row r), some (row r), some (.tup [.str "frame", rws (h :: t)]), some (.tup [.str "frame", rws (h :: t)]), some (.int (qq r)), some (rws (h :: t)), none] φ = .ok false φ := by
        refine or_no (cmp_ok (len_ok (v_ok rfl)) rfl ((ne_int _ _).trans ?_)) (cmp_ok (len_ok lc) rfl ?_)
        · rw [List.length_map, h16]; rfl
        · have : (h :: t).filter (fun _ => false) = [] := by simp
          rw [this]
          rfl
      refine seq_nx (ifD_skip (t3 _ false (gIx_tup (k := 0) rfl) sE5 (by rw [hq]; rfl))) (seq_nx (ifE_yes (ρ1 := [some (rws RT), some (rws F), some (row r), some (row r), some (.tup [.str "frame", rws (h :: t)]), none, some (.int (qq r)), some (rws (h :: t)), none]) (cmp_ok (bin_ok (v_ok rfl) rfl (gIx_tup (k := 0) rfl)) rfl sE6) (seq_nx s7 (seq_nx (ifD_skip t7) (pokeT_ok (ds := [.str "frame", rws (h :: t)]) (es := (h :: t).map row) (d := .lst []) rfl rfl (by
        rw [List.length_map, h16]
        have := size_le (show 17 ≤ 1000000 by decide)
        omega) rfl))) rfl) (seq_nx (ifE_skip (cmp_ok (bin_ok (v_ok rfl) rfl (gIx_tup (k := 0) rfl)) rfl sE5)) (last _ _ _)))
theorem f_right {F : List (List Int)} (hFO : F = FO) {r : List Int} (hR : Lat r) (hRw : Rw r) (φ : Fd) : F__law_right [rws RT, rws F, row r] φ = .ok (.bl true) φ :=
  f_right' (R := F) hRw (rest_cs hR) (rest_shp r) (rest_mt r) (fun φ => by rw [hFO, ← due_rest hR]; exact f_ldue hRw φ) (fun φ => f_rest hRw.1 φ) φ
end Pf

set_option Elab.async false
set_option linter.all false
set_option maxRecDepth 100000
set_option maxHeartbeats 1000000
namespace Pf
open PySem PySem.Spec PyProof.Rows L2

def bd (n : Nat) (x : List Int) : Prop := ∀ a ∈ x, a.natAbs ≤ n
theorem add_bd : ∀ {x y : List Int} {n m : Nat}, bd n x → bd m y → bd (n + m) (add x y)
  | [], y, _, _, _, _ => by intro a ha; cases y <;> cases ha
  | _ :: _, [], _, _, _, _ => by intro a ha; cases ha
  | a :: x, b :: y, n, m, hx, hy => by
    intro c hc
    rcases List.mem_cons.mp (show c ∈ (a + b) :: add x y from hc) with rfl | hc
    · have h1 := hx a List.mem_cons_self
      have h2 := hy b List.mem_cons_self
      omega
    · exact add_bd (fun u hu => hx u (List.mem_cons_of_mem _ hu)) (fun u hu => hy u (List.mem_cons_of_mem _ hu)) c hc
theorem RT_bd {x : List Int} (h : x ∈ RT) : bd 2 x := fun a ha => by have := (RT_row x h).2 a ha; omega
theorem less_bd {x y : List Int} {n m : Nat} (hx : bd n x) (hy : bd m y) (k : Int) : bd (n + k.natAbs * m) (less x y k) := by
  intro c hc
  unfold less at hc
  obtain ⟨i, hi, e⟩ := List.mem_iff_getElem.mp hc
  rw [List.getElem_zipWith] at e
  rw [List.length_zipWith] at hi
  have h1 := hx (x[i]'(by omega)) (List.getElem_mem _)
  have h2 := hy (y[i]'(by omega)) (List.getElem_mem _)
  have h3 : (k * y[i]'(by omega)).natAbs ≤ k.natAbs * m := by rw [Int.natAbs_mul]; exact Nat.mul_le_mul_left _ h2
  omega
theorem bd_rw {x : List Int} {n : Nat} (h : bd n x) (hn : n ≤ 1000000) (h8 : x.length = 8) : Rw x := ⟨h8, fun a ha => by have := h a ha; omega⟩
abbrev lb__law_row_1 : SS := (sSeq (sSet 3 (eCall F__law_less (aCons (eVar 3) (aCons (eBin gIx (eVar 1) (eCall F__law_draw (aCons (eVar 0) (aCons (eInt 240) aNil)))) (aCons (eUn gNeg (eInt 1)) aNil))))) sNil)
noncomputable abbrev lb_law_1 : SS := (sSeq (sIf (bNot (bTru (eCall F__law_right (aCons (eVar 2) (aCons (eVar 3) (aCons (eVar 7) aNil)))))) (sSeq (sRet (eBl false)) sNil) sNil) sNil)

theorem f_lrow (φ : Fd) (ht : 0 ≤ φ.told) (m : Nat) (hm : m ≤ 1000) : ∃ L φ', F__law_row [.feed, rws RT, .int m] φ = .ok (row L) φ' ∧ Lat L ∧ bd (2 * m) L ∧ 0 ≤ φ'.told := by
  obtain ⟨h0, h1⟩ := φ.draw_range (m := (m : Int) + 1) (by omega)
  obtain ⟨n, hn⟩ : ∃ n : Nat, (φ.draw ((m : Int) + 1)).1 = (n : Int) := ⟨_, (Int.toNat_of_nonneg h0).symm⟩
  rw [hn] at h1
  have ht1 := Fd.draw_told ht ((m : Int) + 1) (by omega)
  obtain ⟨ρ', φ', l1, L, y4, rfl, hL, hb, ht'⟩ := for_st (T := tgN 4) (e := fun k : Nat => D.int (k : Int)) (B := lb__law_row_1)
    (fun pre ρ φ => ∃ L y4, ρ = [some .feed, some (rws RT), some (.int (m : Int)), some (row L), y4] ∧ Lat L ∧ bd (2 * pre.length) L ∧ 0 ≤ φ.told) (List.range n) [] (ρ := [some .feed, some (rws RT), some (.int (m : Int)), some (row z8), none]) (φ := (φ.draw ((m : Int) + 1)).2) ⟨z8, none, rfl, z8_lat, by intro a ha; simp [z8] at ha; omega, ht1⟩ (by
    rintro pre k post ρ φ hp ⟨L, y4, rfl, hL, hb, ht⟩
    have hk : pre.length < n := by
      have := congrArg List.length hp
      rw [List.nil_append, List.length_range, List.length_append, List.length_cons] at this
      omega
    obtain ⟨r, hr, g⟩ := draw_ix row RT φ 240 rfl RT_len (by decide)
    have hb2 := less_bd hb (RT_bd hr) (-1)
    have e3 : eCall F__law_less (aCons (eVar 3) (aCons (eBin gIx (eVar 1) (eCall F__law_draw (aCons (eVar 0) (aCons (eInt 240) aNil)))) (aCons (eUn gNeg (eInt 1)) aNil))) [some .feed, some (rws RT), some (.int (m : Int)), some (row L), some (D.int (k : Int))] φ = .ok (row (less L r (-1))) (φ.draw 240).2 :=
      call_ok (ds := [row L, row r, .int (-1)]) (cons_ok (v_ok rfl) (cons_ok (bin_ok (v_ok rfl) (draw_at 0 rfl rfl (by decide) (by decide) ht) g) (one_ok rfl))) (f_lless _ (bd_rw hb (by omega) hL.1) (RT_rw hr) (by decide))
    refine ⟨_, rfl, _, _, .inl (seq_one (set_ok e3)), less L r (-1), some (D.int (k : Int)), rfl, hL.less (-1) (RT_lat hr), ?_, Fd.draw_told ht 240⟩
    rw [List.length_append, List.length_singleton, Nat.mul_add]
    exact hb2)
  rw [List.nil_append, List.length_range] at hb
  refine ⟨L, φ', run_rt (seq_nx (set_ok (d := row z8) (by kernel_rfl)) (seq_nx (for_ok (rg1_ok (n := n) (one_ok ((draw_at 0 rfl (bin_ok (v_ok rfl) rfl rfl) (by omega) (by omega) ht).trans (by rw [hn]))) (by omega)) l1) (seq_rt (ret_ok (v_ok rfl))))), hL, fun a ha => by have := hb a ha; omega, ht'⟩
theorem sl_take1 {ρ : En} {φ : Fd} {A : SX} {l : List D} (ha : A ρ φ = .ok (.lst l) φ) : eSl A oNone (oSome (eInt 1)) ρ φ = .ok (.lst (l.take 1)) φ := sl_ok1 (k := 1) ha rfl
def w4 : List Int := [0, 0, 0, 0, 0, 0, 0, 4]
def wm : List Int := [-1, -1, -1, -1, -1, -1, -1, -1]
theorem w4_lat : Lat w4 := by decide
theorem w4_rest : restD w4 = .tup [.str "frame", rws (alikeR w4)] := by
  have h1 : twb w4 = false := by decide +kernel
  have h2 : RL w4 = [] := by decide +kernel
  unfold restD
  rw [h1, if_neg (by decide), h2]
  show D.tup [.str "frame", rws (FR w4)] = _
  rw [FR_FO w4_lat]
theorem w4_take : (alikeR w4).take 1 = [[-4, 0, 0, 0, 0, 0, 0, 0]] := by decide +kernel
theorem z8_rest : restD z8 = .tup [.str "nothing"] := by
  have h1 : twb z8 = true := by decide +kernel
  unfold restD
  rw [if_pos h1]
theorem wm_rest : restD wm = .tup [.str "pair", row [1, 1, 1, 1, 1, 1, 1, 1]] := by
  have h1 : twb wm = false := by decide +kernel
  have h2 : RL wm = [[-1, -1, -1, -1, -1, -1, -1, -1], [1, 1, 1, 1, 1, 1, 1, 1]] := by decide +kernel
  unfold restD
  rw [h1, if_neg (by decide), h2]
  rfl
end Pf

set_option Elab.async false
set_option linter.all false
set_option maxRecDepth 100000
set_option maxHeartbeats 1000000
namespace Pf
open PySem PySem.Spec PyProof.Rows L2

theorem f_count (φ : Fd) : F_count_rests [] φ = .ok (.tup [.int 1, .int 120, .int 135]) φ := by kernel_rfl
theorem smul_rw {x : List Int} {n : Nat} (h : bd n x) (hn : 2 * n ≤ 1000000) (h8 : x.length = 8) : Rw (smul 2 x) := ⟨by rw [smul_len, h8], fun a ha => by
  unfold smul at ha
  obtain ⟨b, hb, rfl⟩ := List.mem_map.mp ha
  have := h b hb
  omega⟩
theorem law_F {F : List (List Int)} (hFO : F = FO) (φ : Fd) (ht : 0 ≤ φ.told) (e3 : ∀ φ, F__law_fours [] φ = .ok (rws F) φ) : ∃ φ', B_law [none, some .feed, none, none, none, none, none, none, none] φ = .rt (.bl true) φ' := by
  have hlen : F.length = 2160 := by rw [hFO, FO_len]
  have t0 : bCmp gNe (eCB gLen (aCons (eVar 3) aNil)) (eInt 2160) [none, some .feed, some (rws RT), some (rws F), none, none, none, none, none] φ = .ok false φ := by
    refine cmp_ok (len_ok (v_ok rfl)) rfl ((ne_int _ _).trans ?_)
    rw [List.length_map, hlen]
    rfl
  obtain ⟨R1, φ1, g1, L1, b1, ht1⟩ := f_lrow φ ht 4 (by decide)
  obtain ⟨R2, φ2, g2, L2', b2, ht2⟩ := f_lrow φ1 ht1 3 (by decide)
  obtain ⟨w, hw, g3⟩ := draw_ix row F φ2 (n := 2160) 2160 rfl hlen (by decide)
  have ht3 := Fd.draw_told ht2 2160
  obtain ⟨φ3, hφ3⟩ : ∃ φ3, φ3 = (φ2.draw 2160).2 := ⟨_, rfl⟩
  rw [← hφ3] at ht3
  obtain ⟨g, hg, g4⟩ := draw_ix row RT φ3 (n := 240) 240 rfl RT_len (by decide)
  have ht4 := Fd.draw_told ht3 240
  obtain ⟨φ4, hφ4⟩ : ∃ φ4, φ4 = (φ3.draw 240).2 := ⟨_, rfl⟩
  rw [← hφ4] at ht4
  rw [hFO] at hw
  have lw := (FO_mem.mp hw).1
  have rw1 : Rw R1 := bd_rw b1 (by decide) L1.1
  have rw2 : Rw R2 := bd_rw b2 (by decide) L2'.1
  have rw4 : Rw (less w R2 2) := bd_rw (less_bd (FO_bd hw : bd 4 w) b2 2) (by decide) (less_len (by rw [lw.1, L2'.1]) |>.trans lw.1)
  have e6 : sSet 6 (eBin gIx (eVar 3) (eCall F__law_draw (aCons (eVar 1) (aCons (eInt 2160) aNil)))) [none, some .feed, some (rws RT), some (rws F), some (row R1), some (row R2), none, none, none] φ2 = .nx [none, some .feed, some (rws RT), some (rws F), some (row R1), some (row R2), some (row w), none, none] φ3 := by
    rw [hφ3]
    exact set_ok (bin_ok (v_ok rfl) (draw_at 1 rfl rfl (by decide) (by decide) ht2) g3)
  have el : eLst (aCons (eVar 4) (aCons (eLc (iSeq (eVar 5)) (tgN 8) bYes (eBin gMul (eInt 2) (eVar 8)) [8]) (aCons (eBin gIx (eVar 2) (eCall F__law_draw (aCons (eVar 1) (aCons (eInt 240) aNil)))) (aCons (eCall F__law_less (aCons (eVar 6) (aCons (eVar 5) (aCons (eInt 2) aNil)))) aNil)))) [none, some .feed, some (rws RT), some (rws F), some (row R1), some (row R2), some (row w), none, none] φ3 = .ok (.lst ([R1, smul 2 R2, g, less w R2 2].map row)) φ4 := by
    have e5 : eLc (iSeq (eVar 5)) (tgN 8) bYes (eBin gMul (eInt 2) (eVar 8)) [8] [none, some .feed, some (rws RT), some (rws F), some (row R1), some (row R2), some (row w), none, none] φ3 = .ok (row (smul 2 R2)) φ3 := by
      have h := lcm_ok (T := tgN 8) (elt := eBin gMul (eInt 2) (eVar 8)) (vs := [8]) (ρ := [none, some .feed, some (rws RT), some (rws F), some (row R1), some (row R2), some (row w), none, none]) (φ1 := φ3) R2 D.int (fun x => D.int (2 * x)) (seq_l (A := eVar 5) (v_ok rfl)) (size_le (by rw [L2'.1]; decide)) fun x hx => ⟨_, rfl, bin_ok rfl (v_ok rfl) (gMul_ok' (by decide))⟩
      have h2 : R2.map (fun x => D.int (2 * x)) = (smul 2 R2).map D.int := by unfold smul; rw [List.map_map]; rfl
      rw [h2] at h
      exact h
    refine lst_ok (cons_ok (v_ok rfl) (cons_ok e5 (cons_ok (bin_ok (v_ok rfl) (draw_at 1 rfl rfl (by decide) (by decide) ht3) g4) ?_))) (size_le (show 4 ≤ 1000000 by decide))
    rw [← hφ4]
    exact one_ok (call_ok (cons_ok (v_ok rfl) (two_ok (v_ok rfl) rfl)) (f_lless φ4 (FO_rw hw) rw2 (by decide)))
  obtain ⟨ρ', l1, y7, rfl⟩ := for_inv (T := tgN 7) (φ := φ4) (e := row) (B := lb_law_1)
    (fun pre ρ => ∃ y7, ρ = [none, some .feed, some (rws RT), some (rws F), some (row R1), some (row R2), some (row w), y7, none]) [R1, smul 2 R2, g, less w R2 2] [] (ρ := [none, some .feed, some (rws RT), some (rws F), some (row R1), some (row R2), some (row w), none, none]) ⟨none, rfl⟩ (by
    rintro pre own post ρ hpp ⟨y7, rfl⟩
    have ho : own ∈ [R1, smul 2 R2, g, less w R2 2] := by rw [show [R1, smul 2 R2, g, less w R2 2] = pre ++ own :: post from hpp]; simp
    have hL : Lat own ∧ Rw own := by
      simp only [List.mem_cons, List.not_mem_nil, or_false] at ho
      rcases ho with rfl | rfl | rfl | rfl
      · exact ⟨L1, rw1⟩
      · exact ⟨L2'.smul 2, smul_rw b2 (by decide) L2'.1⟩
      · exact ⟨RT_lat hg, RT_rw hg⟩
      · exact ⟨lw.less 2 L2', rw4⟩
    exact ⟨_, rfl, _, .inl (seq_one (if_skip (not_ok (b := true) (trub_ok (call_ok (cons_ok (v_ok rfl) (two_ok (v_ok rfl) (v_ok rfl))) (f_right hFO hL.1 hL.2 φ4)))))), some (row own), rfl⟩)
  have t9 : bNot (bTru (eCall (F__law_same 8) (aCons (eCall0 F_count_rests) (aCons (eTup (aCons (eInt 1) (aCons (eInt 120) (aCons (eInt 135) aNil)))) aNil)))) [none, some .feed, some (rws RT), some (rws F), some (row R1), some (row R2), some (row w), y7, none] φ4 = .ok false φ4 :=
    not_ok (b := true) (trub_ok (call_ok (two_ok (call0_ok (f_count φ4)) (tup_ok (ds := [.int 1, .int 120, .int 135]) rfl (size_le (show 3 ≤ 1000000 by decide)))) (same8 (n := 1) φ4 (by kernel_rfl))))
  obtain ⟨φ5, t10⟩ : ∃ φ5, bAnd (bCmp gEq (eCall F__law_draw (aCons (eVar 1) (aCons (eInt 8) aNil))) (eInt 0)) (bNot (bTru (eCall F__law_frames_right (aCons (eVar 3) aNil)))) [none, some .feed, some (rws RT), some (rws F), some (row R1), some (row R2), some (row w), y7, none] φ4 = .ok false φ5 := by
    have d := draw_at (ρ := [none, some .feed, some (rws RT), some (rws F), some (row R1), some (row R2), some (row w), y7, none]) (A := eInt 8) 1 rfl rfl (by decide) (by decide) ht4
    have c : bCmp gEq (eCall F__law_draw (aCons (eVar 1) (aCons (eInt 8) aNil))) (eInt 0) [none, some .feed, some (rws RT), some (rws F), some (row R1), some (row R2), some (row w), y7, none] φ4 = .ok (decide ((φ4.draw 8).1 = 0)) (φ4.draw 8).2 := cmp_ok d rfl (eq_int _ _)
    by_cases q : (φ4.draw 8).1 = 0
    · exact ⟨_, and_yes (c.trans (by rw [decide_eq_true q])) (not_ok (b := true) (trub_ok (call_ok (one_ok (v_ok rfl)) (f_framesright hFO _))))⟩
    · exact ⟨_, and_no (c.trans (by rw [decide_eq_false q]))⟩
  have t11 : bNot (bTru (eCall (F__law_same 8) (aCons (eSl (eBin gIx (eCall F_rest_by_two (aCons (eLst (aCons (eInt 0) (aCons (eInt 0) (aCons (eInt 0) (aCons (eInt 0) (aCons (eInt 0) (aCons (eInt 0) (aCons (eInt 0) (aCons (eInt 4) aNil))))))))) aNil)) (eInt 1)) oNone (oSome (eInt 1))) (aCons (eLst (aCons (eLst (aCons (eUn gNeg (eInt 4)) (aCons (eInt 0) (aCons (eInt 0) (aCons (eInt 0) (aCons (eInt 0) (aCons (eInt 0) (aCons (eInt 0) (aCons (eInt 0) aNil))))))))) aNil)) aNil)))) [none, some .feed, some (rws RT), some (rws F), some (row R1), some (row R2), some (row w), y7, none] φ5 = .ok false φ5 := by
    refine not_ok (b := true) (trub_ok (call_ok (two_ok (d := rws [[-4, 0, 0, 0, 0, 0, 0, 0]]) ?_ (lst_ok (ds := [row [-4, 0, 0, 0, 0, 0, 0, 0]]) (one_ok (lst_ok rfl (by decide))) (size_le (show 1 ≤ 1000000 by decide)))) (same8 (n := 2) φ5 (by kernel_rfl))))
    have h := sl_take1 (ρ := [none, some .feed, some (rws RT), some (rws F), some (row R1), some (row R2), some (row w), y7, none]) (φ := φ5) (l := (alikeR w4).map row) (A := eBin gIx (eCall F_rest_by_two (aCons (eLst (aCons (eInt 0) (aCons (eInt 0) (aCons (eInt 0) (aCons (eInt 0) (aCons (eInt 0) (aCons (eInt 0) (aCons (eInt 0) (aCons (eInt 4) aNil))))))))) aNil)) (eInt 1)) (bin_ok (call_ok (ds := [row w4]) (one_ok (lst_ok rfl (by decide))) ((f_rest w4_lat.1 φ5).trans (by rw [w4_rest]))) rfl (gIx_tup (k := 1) rfl))
    rw [← List.map_take, w4_take] at h
    exact h
  have t12 : (eCall (F__law_same 8) (aCons (eLst (aCons (eCall F_rest_by_two (aCons (eBin gMul (eLst (aCons (eInt 0) aNil)) (eInt 8)) aNil)) (aCons (eCall F_rest_by_two (aCons (eBin gMul (eLst (aCons (eUn gNeg (eInt 1)) aNil)) (eInt 8)) aNil)) aNil))) (aCons (eLst (aCons (eTup (aCons (eStr "nothing") aNil)) (aCons (eTup (aCons (eStr "pair") (aCons (eBin gMul (eLst (aCons (eInt 1) aNil)) (eInt 8)) aNil))) aNil))) aNil))) [none, some .feed, some (rws RT), some (rws F), some (row R1), some (row R2), some (row w), y7, none] φ5 = .ok (.bl true) φ5 := by
    refine call_ok (two_ok (d := .lst [.tup [.str "nothing"], .tup [.str "pair", row [1, 1, 1, 1, 1, 1, 1, 1]]]) (lst_ok (two_ok (call_ok (ds := [row z8]) (one_ok (by kernel_rfl)) ((f_rest z8_lat.1 φ5).trans (by rw [z8_rest]))) (call_ok (ds := [row wm]) (one_ok (by kernel_rfl)) ((f_rest (R := wm) rfl φ5).trans (by rw [wm_rest])))) (size_le (show 2 ≤ 1000000 by decide))) (by kernel_rfl)) (same8 (n := 3) φ5 (by kernel_rfl))
  exact ⟨φ5, seq_nx (set_ok (call0_ok (f_lroots φ))) (seq_nx (set_ok (call0_ok (e3 φ))) (seq_nx (if_skip t0) (seq_nx (set_ok (call_ok (cons_ok (v_ok rfl) (two_ok (v_ok rfl) rfl)) g1)) (seq_nx (set_ok (call_ok (cons_ok (v_ok rfl) (two_ok (v_ok rfl) rfl)) g2)) (seq_nx e6 (seq_nx (for_ok (seq_l el) l1) (seq_nx (if_skip t9) (seq_nx (if_skip t10) (seq_nx (if_skip t11) (seq_rt (ret_ok t12)))))))))))⟩
theorem law_true : ∀ φ : Fd, φ.Ok → ∃ φ', B_law ((List.replicate 9 none).set 1 (some .feed)) φ = .rt (.bl true) φ' := fun φ h => law_F rfl φ h.t0 fun φ => f_lfours φ
end Pf

set_option Elab.async false
set_option linter.all false
set_option maxRecDepth 100000
open PySem PySem.W PyProof.Rows
set_option maxHeartbeats 0 in
theorem PySem.Challenge.cw_eightroots_k16_whole_rests_by_twos_holds : PySem.Challenge.rw_eightroots_k16_whole_rests_by_twos.Holds := by
  w_on; o_law; k_head; (case hw => w_witness2)
  k_fill
  refine L2.walk_of (l := PySem.Challenge.rw_eightroots_k16_whole_rests_by_twos) (n := 63) (k := 11) (x := "script") (CX := fun w => L2.CX PySem.Challenge.rw_eightroots_k16_whole_rests_by_twos.prog w) (sp := fun w => Pf.spLaw _) rfl (by decide) rfl ⟨rfl, by decide, by decide⟩ (fun w h Y => PySem.W.kIn_of Y) ?F (fun _ _ a ns hl _ hS => ⟨a, ns, rfl, hS, hl, fun _ => rfl⟩) (fun _ _ _ _ _ ⟨_, _, _, _, _, _, _, _, _, _, _, _, h⟩ => h)
  case F =>
    intro w mg fa h KX G hmg
    refine' Pf.all_mk KX G hmg ?a0 ?l0 ?c0 ?k0 ?a1 ?l1 ?c1 ?k1 ?a2 ?l2 ?c2 ?k2 ?a3 ?l3 ?c3 ?k3 ?a4 ?l4 ?c4 ?k4 ?a5 ?l5 ?c5 ?k5 ?a6 ?l6 ?c6 ?k6 ?a7 ?l7 ?c7 ?k7 ?a8 ?l8 ?c8 ?k8 ?a9 ?l9 ?c9 ?k9 ?a10 ?l10 ?c10 ?k10 ?a11 ?l11 ?c11 ?k11 ?a12 ?l12 ?c12 ?k12 ?a13 ?l13 ?c13 ?k13 ?a14 ?l14 ?c14 ?k14 ?a15 ?l15 ?c15 ?k15 ?a16 ?l16 ?c16 ?k16 ?a17 ?l17 ?c17 ?k17 ?a18 ?l18 ?c18 ?k18 ?a19 ?l19 ?c19 ?k19 ?a20 ?l20 ?c20 ?k20 ?a21 ?l21 ?c21 ?k21 ?a22 ?l22 ?c22 ?k22 ?a23 ?l23 ?c23 ?k23 ?a24 ?l24 ?c24 ?k24 ?a25 ?l25 ?c25 ?k25 ?a26 ?l26 ?c26 ?k26 ?a27 ?l27 ?c27 ?k27 ?a28 ?l28 ?c28 ?k28 ?a29 ?l29 ?c29 ?k29 ?a30 ?l30 ?c30 ?k30 ?a31 ?l31 ?c31 ?k31 ?z_any ?z_sum ?z_zip ?z_range ?z_sorted ?z_tuple ?z_list ?z_len ?z_abs ?z_int ?z_isinstance ?z_all ?z_bool ?z_str ?y_SIZE ?y_RESIDUES ?r_RESIDUES ?y_RESTS ?r_RESTS Pf.law_true
    (case a0 => k_is); (case l0 => k_is); (case c0 => k_is); (case k0 => k_is); (case a1 => k_is); (case l1 => k_is); (case c1 => k_is); (case k1 => k_is); (case a2 => k_is); (case l2 => k_is); (case c2 => k_is); (case k2 => k_is); (case a3 => k_is); (case l3 => k_is); (case c3 => k_is); (case k3 => k_is); (case a4 => k_is); (case l4 => k_is); (case c4 => k_is); (case k4 => k_is); (case a5 => k_is); (case l5 => k_is); (case c5 => k_is); (case k5 => k_is); (case a6 => k_is); (case l6 => k_is); (case c6 => k_is); (case k6 => k_is); (case a7 => k_is); (case l7 => k_is); (case c7 => k_is); (case k7 => k_is); (case a8 => k_is); (case l8 => k_is); (case c8 => k_is); (case k8 => k_is); (case a9 => k_is); (case l9 => k_is); (case c9 => k_is); (case k9 => k_is); (case a10 => k_is); (case l10 => k_is); (case c10 => k_is); (case k10 => k_is); (case a11 => k_is); (case l11 => k_is); (case c11 => k_is); (case k11 => k_is); (case a12 => k_is); (case l12 => k_is); (case c12 => k_is); (case k12 => k_is); (case a13 => k_is); (case l13 => k_is); (case c13 => k_is); (case k13 => k_is); (case a14 => k_is); (case l14 => k_is); (case c14 => k_is); (case k14 => k_is); (case a15 => k_is); (case l15 => k_is); (case c15 => k_is); (case k15 => k_is); (case a16 => k_is); (case l16 => k_is); (case c16 => k_is); (case k16 => k_is); (case a17 => k_is); (case l17 => k_is); (case c17 => k_is); (case k17 => k_is); (case a18 => k_is); (case l18 => k_is); (case c18 => k_is); (case k18 => k_is); (case a19 => k_is); (case l19 => k_is); (case c19 => k_is); (case k19 => k_is); (case a20 => k_is); (case l20 => k_is); (case c20 => k_is); (case k20 => k_is); (case a21 => k_is); (case l21 => k_is); (case c21 => k_is); (case k21 => k_is); (case a22 => k_is); (case l22 => k_is); (case c22 => k_is); (case k22 => k_is); (case a23 => k_is); (case l23 => k_is); (case c23 => k_is); (case k23 => k_is); (case a24 => k_is); (case l24 => k_is); (case c24 => k_is); (case k24 => k_is); (case a25 => k_is); (case l25 => k_is); (case c25 => k_is); (case k25 => k_is); (case a26 => k_is); (case l26 => k_is); (case c26 => k_is); (case k26 => k_is); (case a27 => k_is); (case l27 => k_is); (case c27 => k_is); (case k27 => k_is); (case a28 => k_is); (case l28 => k_is); (case c28 => k_is); (case k28 => k_is); (case a29 => k_is); (case l29 => k_is); (case c29 => k_is); (case k29 => k_is); (case a30 => k_is); (case l30 => k_is); (case c30 => k_is); (case k30 => k_is); (case a31 => k_is); (case l31 => k_is); (case c31 => k_is); (case k31 => k_is); (case z_any => k_is); (case z_sum => k_is); (case z_zip => k_is); (case z_range => k_is); (case z_sorted => k_is); (case z_tuple => k_is); (case z_list => k_is); (case z_len => k_is); (case z_abs => k_is); (case z_int => k_is); (case z_isinstance => k_is); (case z_all => k_is); (case z_bool => k_is); (case z_str => k_is); (case y_SIZE => k_is); (case y_RESIDUES => k_is); (case r_RESIDUES => kernel_rfl); (case y_RESTS => k_is); (case r_RESTS => kernel_rfl)
