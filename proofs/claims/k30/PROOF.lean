import PyProof.Rows.All
import Wide.All
import OpenK.AllK
import Wide.FinOn
import HandS.ForMost
import HandS.Deep
import HandS.Exc
import HandS.ExcOwn
import HandS.WordsExc
import HandS.ExcCtx
import HandS.Wide
import HandS.Style
import HandS.IsInst
import KE.SortCalls
import KE.DataCmp
import KE.DataMinMax
import HandS.Dict
import HandS.Small
import HandS.TupLe
import HandS.SetFor
import KE.KDictSum
import KE.KDictCopyH
import HandS.Iter
import HandS.CallLocal
import HandS.HotCalls
import HandS.ExcField
import KE.KExcIs
import PyProof.EqAt
import PyProof.EqKinds
import KE.OsGo
import HandS.ExcIs
import HandS.DictTup
import PySem.Challenge.RW_eightroots_k30_whole_lines_at_one_angle
import PyProof.P3Eq
set_option Elab.async false
set_option linter.all false
set_option maxRecDepth 100000
set_option maxHeartbeats 4000000
namespace Pf
open PySem PySem.Spec PyProof.Rows L2

/-! ## plain data, the feed, outcomes -/
inductive D where
  | non | bl (b : Bool) | int (i : Int) | str (x : Str)
  | lst (l : List D) | tup (l : List D)
  | dk (l : List (Key × D)) | dt (l : List (List Key × D))
  | feed | exn (c : Str) (l : List D) | fnv (x : Str)

/-- can it be changed in place -/
def D.mt : D → Bool
  | .lst _ => true
  | .dk _ => true
  | .dt _ => true
  | _ => false

structure Fd where
  cells : List Int
  pos : Int
  told : Int
  st : Int

structure Fd.Ok (φ : Fd) : Prop where
  n : φ.cells.length ≤ 63
  a0 : 0 ≤ φ.pos
  a1 : φ.pos ≤ φ.cells.length
  t0 : 0 ≤ φ.told
  s0 : 0 ≤ φ.st
  s1 : φ.st < 2147483647

inductive O (α : Type) where
  | ok (a : α) (φ : Fd)
  | ex (c : Str) (l : List D) (φ : Fd)
  | bad

@[inline] def O.bind {α β : Type} (x : O α) (k : α → Fd → O β) : O β :=
  match x with
  | .ok a φ => k a φ
  | .ex c l φ => .ex c l φ
  | .bad => .bad
def ofO {α : Type} (o : Option α) (φ : Fd) : O α :=
  match o with
  | some a => .ok a φ
  | none => .bad

abbrev En := List (Option D)
/-- what an expression does -/
abbrev SX := En → Fd → O D
/-- what a def does -/
abbrev Fn := List D → Fd → O D

/-! ## how data lies in the heap -/
mutual
inductive Rep (K : PySem.W.Frag) (f : Addr) (Z : Hp) : V → D → Prop
  | non : Rep K f Z .non .non
  | bl (b : Bool) : Rep K f Z (.bl b) (.bl b)
  | int (i : Int) : Rep K f Z (.int i) (.int i)
  | str (x : Str) : Rep K f Z (.str x) (.str x)
  | cel {a : Addr} {o : HO} {d : D} : Z a = some o → RepC K f Z o d → Rep K f Z (.ref a) d
  | tup {a : Addr} {vs : List V} {ds : List D} : SqT K Z a vs → Reps K f Z vs ds → Rep K f Z (.ref a) (.tup ds)
  | feed : Rep K f Z (.ref f) .feed
  | exn {a : Addr} {c : Str} {l : List D} : Rep K f Z (.ref a) (.exn c l)
  | fnv {a : Addr} {x : Str} : PySem.W.nsIn K mainGlobals x = some (some (.ref a)) → Rep K f Z (.ref a) (.fnv x)
inductive RepC (K : PySem.W.Frag) (f : Addr) (Z : Hp) : HO → D → Prop
  | lst {vs : List V} {ds : List D} : Reps K f Z vs ds → RepC K f Z (.lst vs) (.lst ds)
  | dk {kvs : List (Key × V)} {ds : List (Key × D)} : KReps K f Z kvs ds → RepC K f Z (.dK kvs) (.dk ds)
  | dt {kvs : List (List Key × V)} {ds : List (List Key × D)} : TReps K f Z kvs ds → RepC K f Z (.dT kvs) (.dt ds)
inductive Reps (K : PySem.W.Frag) (f : Addr) (Z : Hp) : List V → List D → Prop
  | nil : Reps K f Z [] []
  | cons {v : V} {d : D} {vs : List V} {ds : List D} : Rep K f Z v d → Reps K f Z vs ds → Reps K f Z (v :: vs) (d :: ds)
inductive KReps (K : PySem.W.Frag) (f : Addr) (Z : Hp) : List (Key × V) → List (Key × D) → Prop
  | nil : KReps K f Z [] []
  | cons {k : Key} {v : V} {d : D} {r : List (Key × V)} {s : List (Key × D)} : Rep K f Z v d → KReps K f Z r s → KReps K f Z ((k, v) :: r) ((k, d) :: s)
inductive TReps (K : PySem.W.Frag) (f : Addr) (Z : Hp) : List (List Key × V) → List (List Key × D) → Prop
  | nil : TReps K f Z [] []
  | cons {k : List Key} {v : V} {d : D} {r : List (List Key × V)} {s : List (List Key × D)} : Rep K f Z v d → TReps K f Z r s → TReps K f Z ((k, v) :: r) ((k, d) :: s)
end

section
variable {K : PySem.W.Frag} {f : Addr} {Z Z' : Hp}
theorem sqT_mono (h : ∀ a o, Z a = some o → Z' a = some o) {a : Addr} {vs : List V} (q : SqT K Z a vs) : SqT K Z' a vs := by
  rcases q with (q | ⟨o, q⟩) | q
  · exact .inl (.inl (h _ _ q))
  · exact .inl (.inr ⟨o, h _ _ q⟩)
  · exact .inr q
mutual
theorem Rep.mono (h : ∀ a o, Z a = some o → Z' a = some o) : ∀ {v : V} {d : D}, Rep K f Z v d → Rep K f Z' v d
  | _, _, .non => .non
  | _, _, .bl b => .bl b
  | _, _, .int i => .int i
  | _, _, .str x => .str x
  | _, _, .cel e r => .cel (h _ _ e) (r.mono h)
  | _, _, .tup e r => .tup (sqT_mono h e) (r.mono h)
  | _, _, .feed => .feed
  | _, _, .exn => .exn
  | _, _, .fnv e => .fnv e
theorem RepC.mono (h : ∀ a o, Z a = some o → Z' a = some o) : ∀ {v : HO} {d : D}, RepC K f Z v d → RepC K f Z' v d
  | _, _, .lst r => .lst (r.mono h)
  | _, _, .dk r => .dk (r.mono h)
  | _, _, .dt r => .dt (r.mono h)
theorem Reps.mono (h : ∀ a o, Z a = some o → Z' a = some o) : ∀ {v : List V} {d : List D}, Reps K f Z v d → Reps K f Z' v d
  | _, _, .nil => .nil
  | _, _, .cons r s => .cons (r.mono h) (s.mono h)
theorem KReps.mono (h : ∀ a o, Z a = some o → Z' a = some o) : ∀ {v : List (Key × V)} {d : List (Key × D)}, KReps K f Z v d → KReps K f Z' v d
  | _, _, .nil => .nil
  | _, _, .cons r s => .cons (r.mono h) (s.mono h)
theorem TReps.mono (h : ∀ a o, Z a = some o → Z' a = some o) : ∀ {v : List (List Key × V)} {d : List (List Key × D)}, TReps K f Z v d → TReps K f Z' v d
  | _, _, .nil => .nil
  | _, _, .cons r s => .cons (r.mono h) (s.mono h)
end
theorem Reps.length : ∀ {v : List V} {d : List D}, Reps K f Z v d → v.length = d.length
  | _, _, .nil => rfl
  | _, _, .cons _ s => by simp [s.length]
theorem Reps.app : ∀ {v : List V} {d : List D} {v' : List V} {d' : List D}, Reps K f Z v d → Reps K f Z v' d' → Reps K f Z (v ++ v') (d ++ d')
  | _, _, _, _, .nil, s => s
  | _, _, _, _, .cons r t, s => .cons r (t.app s)
theorem Reps.get : ∀ {v : List V} {d : List D} {i : Nat} {x : D}, Reps K f Z v d → d[i]? = some x → ∃ y, v[i]? = some y ∧ Rep K f Z y x
  | _, _, _, _, .nil, e => by simp at e
  | _, _, 0, _, .cons r _, e => by simp at e; subst e; exact ⟨_, rfl, r⟩
  | _, _, i + 1, x, .cons _ t, e => by
    obtain ⟨y, h1, h2⟩ := Reps.get (i := i) (x := x) t (by simpa using e)
    exact ⟨y, by simpa using h1, h2⟩
theorem Reps.getV : ∀ {v : List V} {d : List D} {i : Nat} {y : V}, Reps K f Z v d → v[i]? = some y → ∃ x, d[i]? = some x ∧ Rep K f Z y x
  | _, _, _, _, .nil, e => by simp at e
  | _, _, 0, _, .cons r _, e => by simp at e; subst e; exact ⟨_, rfl, r⟩
  | _, _, i + 1, x, .cons _ t, e => by
    obtain ⟨y, h1, h2⟩ := Reps.getV (i := i) (y := x) t (by simpa using e)
    exact ⟨y, by simpa using h1, h2⟩
theorem Reps.set {y : V} {x : D} (r : Rep K f Z y x) : ∀ {v : List V} {d : List D} (i : Nat), Reps K f Z v d → Reps K f Z (v.set i y) (d.set i x)
  | _, _, _, .nil => .nil
  | _, _, 0, .cons _ t => .cons r t
  | _, _, i + 1, .cons q t => .cons q (t.set r i)
theorem Reps.take : ∀ {v : List V} {d : List D} (n : Nat), Reps K f Z v d → Reps K f Z (v.take n) (d.take n)
  | _, _, 0, _ => .nil
  | _, _, _ + 1, .nil => .nil
  | _, _, n + 1, .cons r t => .cons r (t.take n)
theorem Reps.drop : ∀ {v : List V} {d : List D} (n : Nat), Reps K f Z v d → Reps K f Z (v.drop n) (d.drop n)
  | _, _, 0, r => r
  | _, _, _ + 1, .nil => .nil
  | _, _, n + 1, .cons _ t => t.drop n
theorem Reps.erase : ∀ {v : List V} {d : List D} (n : Nat), Reps K f Z v d → Reps K f Z (v.eraseIdx n) (d.eraseIdx n)
  | _, _, _, .nil => .nil
  | _, _, 0, .cons _ t => t
  | _, _, n + 1, .cons r t => .cons r (t.erase n)
theorem Reps.rev {v : List V} {d : List D} (h : Reps K f Z v d) : Reps K f Z v.reverse d.reverse := by
  induction v generalizing d with
  | nil => cases h; exact .nil
  | cons x v ih =>
    cases h with
    | cons r s => simpa using (ih s).app (.cons r .nil)
theorem Reps.ints : ∀ (ns : List Int), Reps K f Z (ns.map V.int) (ns.map D.int)
  | [] => .nil
  | n :: r => .cons (.int n) (Reps.ints r)
/-- ints back -/
theorem Reps.ints_inv : ∀ {v : List V} {ns : List Int}, Reps K f Z v (ns.map D.int) → v = ns.map V.int
  | _, [], h => by cases h; rfl
  | _, n :: r, h => by
    cases h with
    | cons a b =>
      cases a with
      | int => rw [Reps.ints_inv b]; rfl
      | cel _ q => cases q
end

/-! ## extension, well-formedness -/
/-- the feed's list of cells is the same -/
def FdR (o o' : HO) : Prop := o' = o ∨ ∃ a vs us, o = .lst (.ref a :: vs) ∧ o' = .lst (.ref a :: us)
def FdK (f : Addr) (H H' : Hp) : Prop := ∀ o, H f = some o → ∃ o', H' f = some o' ∧ FdR o o'
theorem FdK.same {f : Addr} {H H' : Hp} (h : H' f = H f) : FdK f H H' := fun o e => ⟨o, h.trans e, .inl rfl⟩
theorem FdK.refl {f : Addr} {H : Hp} : FdK f H H := .same rfl
theorem FdK.trans {f : Addr} {H H1 H2 : Hp} (a : FdK f H H1) (b : FdK f H1 H2) : FdK f H H2 := fun o e => by
  obtain ⟨o1, e1, r1⟩ := a o e
  obtain ⟨o2, e2, r2⟩ := b o1 e1
  refine ⟨o2, e2, ?_⟩
  rcases r1 with rfl | ⟨x, vs, us, rfl, rfl⟩
  · exact r2
  · rcases r2 with rfl | ⟨x', vs', us', h1, h2⟩
    · exact .inr ⟨x, vs, us, rfl, rfl⟩
    · cases h1
      exact .inr ⟨x, vs, us', rfl, h2⟩
structure Ext (f : Addr) (Z H Z' H' : Hp) : Prop where
  z : ∀ a o, Z a = some o → Z' a = some o
  h : ∀ a o, a ≠ f → H a = some o → H' a = some o
  k : ∀ a, H a ≠ none → H' a ≠ none
  n : ∀ a, H a ≠ none → Z a = none → Z' a = none
  d : FdK f H H'
theorem Ext.refl {f : Addr} {Z H : Hp} : Ext f Z H Z H := ⟨fun _ _ h => h, fun _ _ _ h => h, fun _ h => h, fun _ _ h => h, .refl⟩
theorem Ext.trans {f : Addr} {Z H Z1 H1 Z2 H2 : Hp} (a : Ext f Z H Z1 H1) (b : Ext f Z1 H1 Z2 H2) : Ext f Z H Z2 H2 :=
  ⟨fun x o h => b.z x o (a.z x o h), fun x o hx h => b.h x o hx (a.h x o hx h), fun x h => b.k x (a.k x h), fun x h hz => b.n x (a.k x h) (a.n x h hz), a.d.trans b.d⟩

/-- where the feed lies; or: there is no feed (told below 0), f is any cell -/
def FeedZ (Z : Hp) (φ : Fd) (s : Addr × HO) : Prop := (φ.told < 0 ∧ ∀ a l, s.2 ≠ .lst (.ref a :: l)) ∨ (Z s.1 = some (.lst (φ.cells.map V.int)) ∧ s.2 = .lst [.ref s.1, .int φ.pos, .int φ.told, .int φ.st])
theorem FeedZ.mono {Z Z' : Hp} {φ : Fd} {s : Addr × HO} (h : ∀ a o, Z a = some o → Z' a = some o) (q : FeedZ Z φ s) : FeedZ Z' φ s := by
  rcases q with q | ⟨q1, q2⟩
  · exact .inl q
  · exact .inr ⟨h _ _ q1, q2⟩
structure Wf (K : PySem.W.Frag) (f : Addr) (Z H : Hp) (φ : Fd) : Prop where
  sub : ∀ a o, Z a = some o → H a = some o
  zf : Z f = none
  feed : ∃ s : Addr × HO, FeedZ Z φ s ∧ H f = some s.2
  ok : 0 ≤ φ.told → φ.Ok
theorem Wf.hf {K : PySem.W.Frag} {f : Addr} {Z H : Hp} {φ : Fd} (w : Wf K f Z H φ) : H f ≠ none := by
  obtain ⟨s, _, h⟩ := w.feed
  rw [h]; simp

inductive Md where | o | s | p | d (n : Nat)
  deriving DecidableEq
/-- lists down to the depth n are new since H0 -/
def Nw (H0 Z : Hp) : Nat → V → D → Prop
  | 0, _, _ => True
  | n + 1, v, .lst ds => ∃ a vs, v = .ref a ∧ Z a = some (.lst vs) ∧ H0 a = none ∧ ∀ (i : Nat) u e, vs[i]? = some u → ds[i]? = some e → Nw H0 Z n u e
  | _ + 1, _, _ => True
theorem Nw.mono {H0 Z Z' : Hp} (h : ∀ a o, Z a = some o → Z' a = some o) : ∀ {n : Nat} {v : V} {d : D}, Nw H0 Z n v d → Nw H0 Z' n v d
  | 0, _, _, _ => trivial
  | n + 1, v, .lst ds, ⟨a, vs, e, hz, h0, k⟩ => ⟨a, vs, e, h _ _ hz, h0, fun i u e' h1 h2 => Nw.mono h (k i u e' h1 h2)⟩
  | _ + 1, _, .non, _ => trivial
  | _ + 1, _, .bl _, _ => trivial
  | _ + 1, _, .int _, _ => trivial
  | _ + 1, _, .str _, _ => trivial
  | _ + 1, _, .tup _, _ => trivial
  | _ + 1, _, .dk _, _ => trivial
  | _ + 1, _, .dt _, _ => trivial
  | _ + 1, _, .feed, _ => trivial
  | _ + 1, _, .exn _ _, _ => trivial
  | _ + 1, _, .fnv _, _ => trivial
theorem Nw.start {H0 H1 Z : Hp} (k : ∀ a, H0 a ≠ none → H1 a ≠ none) : ∀ {n : Nat} {v : V} {d : D}, Nw H1 Z n v d → Nw H0 Z n v d
  | 0, _, _, _ => trivial
  | n + 1, v, .lst ds, ⟨a, vs, e, hz, h0, q⟩ => ⟨a, vs, e, hz, Classical.byContradiction fun h => k a h h0, fun i u e' h1 h2 => Nw.start k (q i u e' h1 h2)⟩
  | _ + 1, _, .non, _ => trivial
  | _ + 1, _, .bl _, _ => trivial
  | _ + 1, _, .int _, _ => trivial
  | _ + 1, _, .str _, _ => trivial
  | _ + 1, _, .tup _, _ => trivial
  | _ + 1, _, .dk _, _ => trivial
  | _ + 1, _, .dt _, _ => trivial
  | _ + 1, _, .feed, _ => trivial
  | _ + 1, _, .exn _ _, _ => trivial
  | _ + 1, _, .fnv _, _ => trivial
theorem Nw.flat {H0 Z : Hp} {n : Nat} {v : V} {d : D} (h : d.mt = false) : Nw H0 Z n v d := by
  cases n with
  | zero => trivial
  | succ n => cases d <;> first | trivial | cases h
/-- an own cell at v: not frozen -/
def OwnC (K : PySem.W.Frag) (Z H : Hp) (f : Addr) (v : V) (d : D) : Prop := ∃ a o, v = .ref a ∧ Z a = none ∧ a ≠ f ∧ H a = some o ∧ RepC K f Z o d
/-- a result: fresh where it can be changed (o), frozen (s), either (p); H0: the heap at the start -/
def Res (m : Md) (K : PySem.W.Frag) (f : Addr) (H0 Z H : Hp) (v : V) (d : D) : Prop :=
  match m with
  | .s => Rep K f Z v d
  | .p => Rep K f Z v d ∨ OwnC K Z H f v d
  | .o => if d.mt = true then ∃ a o, v = .ref a ∧ H0 a = none ∧ Z a = none ∧ a ≠ f ∧ H a = some o ∧ RepC K f Z o d else Rep K f Z v d
  | .d n => Rep K f Z v d ∧ Nw H0 Z n v d

section
variable {K : PySem.W.Frag} {f : Addr} {Z H Z' H' H0 : Hp} {v : V} {d : D}
theorem OwnC.mono (r : OwnC K Z H f v d) (e : Ext f Z H Z' H') : OwnC K Z' H' f v d := by
  obtain ⟨a, o, rfl, hz, hf, ha, rc⟩ := r
  exact ⟨a, o, rfl, e.n a (by rw [ha]; simp) hz, hf, e.h a o hf ha, rc.mono e.z⟩
theorem Res.pmono (r : Res .p K f H0 Z H v d) (e : Ext f Z H Z' H') : Res .p K f H0 Z' H' v d := by
  rcases r with r | r
  · exact .inl (r.mono e.z)
  · exact .inr (r.mono e)
theorem Res.s2p (r : Rep K f Z v d) : Res .p K f H0 Z H v d := .inl r
theorem Res.o2p (r : Res .o K f H0 Z H v d) : Res .p K f H0 Z H v d := by
  by_cases hm : d.mt = true
  · unfold Res at r
    rw [if_pos hm] at r
    obtain ⟨a, o, rfl, _, hz, hf, ha, rc⟩ := r
    exact .inr ⟨a, o, rfl, hz, hf, ha, rc⟩
  · unfold Res at r
    rw [if_neg hm] at r
    exact .inl r
theorem Res.start {m : Md} {H1 : Hp} (r : Res m K f H1 Z H v d) (k : ∀ a, H0 a ≠ none → H1 a ≠ none) : Res m K f H0 Z H v d := by
  cases m with
  | s => exact r
  | p => exact r
  | d n => exact ⟨r.1, r.2.start k⟩
  | o =>
    by_cases hm : d.mt = true
    · unfold Res at r ⊢
      rw [if_pos hm] at r ⊢
      obtain ⟨a, o, e, h0, q⟩ := r
      refine ⟨a, o, e, ?_, q⟩
      cases hh : H0 a with
      | none => rfl
      | some x => exact absurd h0 (k a (by rw [hh]; simp))
    · unfold Res at r ⊢
      rw [if_neg hm] at r ⊢
      exact r
/-- data that is not changed is frozen in every mode -/
theorem Res.flat {m : Md} (r : Res m K f H0 Z H v d) (h : d.mt = false) : Rep K f Z v d := by
  cases m with
  | s => exact r
  | d n => exact r.1
  | p =>
    rcases r with r | ⟨a, o, _, _, _, _, rc⟩
    · exact r
    · cases rc <;> cases h
  | o =>
    unfold Res at r
    rw [if_neg (by rw [h]; simp)] at r
    exact r
theorem Res.of_flat {m : Md} (r : Rep K f Z v d) (h : d.mt = false) : Res m K f H0 Z H v d := by
  cases m with
  | s => exact r
  | d n => exact ⟨r, .flat h⟩
  | p => exact .inl r
  | o =>
    unfold Res
    rw [if_neg (by rw [h]; simp)]
    exact r
end
/-! what a p-result is, by its data -/
section
variable {K : PySem.W.Frag} {f : Addr} {Z H H0 : Hp} {v : V} {φ : Fd}
theorem Res.int {m : Md} {i : Int} (r : Res m K f H0 Z H v (.int i)) : v = .int i := by
  cases r.flat rfl with
  | int => rfl
  | cel _ q => cases q
theorem Res.bl {m : Md} {i : Bool} (r : Res m K f H0 Z H v (.bl i)) : v = .bl i := by
  cases r.flat rfl with
  | bl => rfl
  | cel _ q => cases q
theorem Res.str {m : Md} {i : Str} (r : Res m K f H0 Z H v (.str i)) : v = .str i := by
  cases r.flat rfl with
  | str => rfl
  | cel _ q => cases q
theorem Res.non {m : Md} (r : Res m K f H0 Z H v .non) : v = .non := by
  cases r.flat rfl with
  | non => rfl
  | cel _ q => cases q
theorem Res.feed {m : Md} (r : Res m K f H0 Z H v .feed) : v = .ref f := by
  cases r.flat rfl with
  | feed => rfl
  | cel _ q => cases q
theorem Res.tup {m : Md} {ds : List D} (r : Res m K f H0 Z H v (.tup ds)) : ∃ a vs, v = .ref a ∧ SqT K Z a vs ∧ Reps K f Z vs ds := by
  cases r.flat rfl with
  | tup e q => exact ⟨_, _, rfl, e, q⟩
  | cel _ q => cases q
theorem Wf.sqT (w : Wf K f Z H φ) {a : Addr} {vs : List V} (q : SqT K Z a vs) : SqT K H a vs := sqT_mono w.sub q
/-- a list: a tracked cell -/
theorem Res.lst (r : Res .p K f H0 Z H v (.lst ds)) (w : Wf K f Z H φ) : ∃ a vs, v = .ref a ∧ H a = some (.lst vs) ∧ Reps K f Z vs ds := by
  rcases r with r | ⟨a, o, rfl, hz, hf, ha, rc⟩
  · cases r with
    | cel e q =>
      cases q with
      | lst q => exact ⟨_, _, rfl, w.sub _ _ e, q⟩
  · cases rc with
    | lst q => exact ⟨a, _, rfl, ha, q⟩
theorem Res.dk (r : Res .p K f H0 Z H v (.dk ds)) (w : Wf K f Z H φ) : ∃ a vs, v = .ref a ∧ H a = some (.dK vs) ∧ KReps K f Z vs ds := by
  rcases r with r | ⟨a, o, rfl, hz, hf, ha, rc⟩
  · cases r with
    | cel e q =>
      cases q with
      | dk q => exact ⟨_, _, rfl, w.sub _ _ e, q⟩
  · cases rc with
    | dk q => exact ⟨a, _, rfl, ha, q⟩
theorem Res.dt (r : Res .p K f H0 Z H v (.dt ds)) (w : Wf K f Z H φ) : ∃ a vs, v = .ref a ∧ H a = some (.dT vs) ∧ TReps K f Z vs ds := by
  rcases r with r | ⟨a, o, rfl, hz, hf, ha, rc⟩
  · cases r with
    | cel e q =>
      cases q with
      | dt q => exact ⟨_, _, rfl, w.sub _ _ e, q⟩
  · cases rc with
    | dt q => exact ⟨a, _, rfl, ha, q⟩
end
end Pf

set_option Elab.async false
set_option linter.all false
set_option maxRecDepth 100000
set_option maxHeartbeats 4000000
namespace Pf
open PySem PySem.Spec PyProof.Rows L2

/-! ## the state of a def's body -/
/-- fixed through a def's body: the written part, the feed, the frozen part and the heap at the entry; exceptions' classes by name with their field -/
structure Ct where
  K : PySem.W.Frag
  f : Addr
  Z : Hp
  H : Hp
  cls : Str → Option (Addr × List Str)
  s0 : L2.St
  r0 : En
/-- how a slot stands: o own, fresh; s frozen; p as it stood at the start, to be looked at; r as it stood at the start, frozen -/
inductive Ms where | o | s | p | r
  deriving DecidableEq

/-- how an exception lies -/
def XRep (c : Ct) (Z H : Hp) (x : Str) (l : List D) (cls : Value) (dx : Option Addr) : Prop :=
  ∃ C fs, c.cls x = some (C, fs) ∧ cls = .ref C ∧ ∃ vs, Reps c.K c.f Z vs l ∧ vs.length = fs.length ∧
    (fs = [] ∨ ∃ d, dx = some d ∧ d ≠ c.f ∧ H d = some (.xd (fs.zip vs)))

structure Rl (c : Ct) (own : List Ms) (Z : Hp) (ρ : En) (φ : Fd) (σ : L2.St) (H : Hp) : Prop where
  wf : Wf c.K c.f Z H φ
  ext : Ext c.f c.Z c.H Z H
  len : σ.length = ρ.length
  sh : ∀ (i : Nat) (d : D), ρ[i]? = some (some d) → own[i]? ≠ some .o → own[i]? ≠ some .p → ∃ v, σ[i]? = some (some v) ∧ Rep c.K c.f Z v d
  ow : ∀ (i : Nat) (d : D), ρ[i]? = some (some d) → own[i]? = some .o → ∃ v, σ[i]? = some (some v) ∧ Res .o c.K c.f c.H Z H v d
  ne : ∀ (i j : Nat) (a : Addr) (d e : D), i ≠ j → own[i]? = some .o → own[j]? = some .o → ρ[i]? = some (some d) → d.mt = true → ρ[j]? = some (some e) → e.mt = true →
    σ[i]? = some (some (.ref a)) → σ[j]? = some (some (.ref a)) → False
  pn : ∀ (i : Nat) (d : D), ρ[i]? = some (some d) → own[i]? = some .p ∨ own[i]? = some .r → c.r0[i]? = some (some d) ∧ σ[i]? = c.s0[i]?
  pk : ∀ (i : Nat) (d : D), ρ[i]? = some (some d) → own[i]? = some .p → ∃ v, σ[i]? = some (some v) ∧ Res .p c.K c.f c.H c.Z c.H v d

section
variable {c : Ct} {own : List Ms} {Z Z' : Hp} {ρ : En} {φ φ' : Fd} {σ : L2.St} {H H' : Hp}
/-- a variable, in any case to look at -/
theorem Rl.look (R : Rl c own Z ρ φ σ H) {i : Nat} {d : D} (e : ρ[i]? = some (some d)) : ∃ v, σ[i]? = some (some v) ∧ Res .p c.K c.f H Z H v d := by
  by_cases h : own[i]? = some .o
  · obtain ⟨v, e1, r⟩ := R.ow i d e h
    exact ⟨v, e1, r.o2p⟩
  · by_cases h' : own[i]? = some .p
    · obtain ⟨v, e1, r⟩ := R.pk i d e h'
      exact ⟨v, e1, (show Res .p c.K c.f H c.Z c.H v d from r).pmono R.ext⟩
    · obtain ⟨v, e1, r⟩ := R.sh i d e h h'
      exact ⟨v, e1, .inl r⟩
theorem Rl.more (R : Rl c own Z ρ φ σ H) (e : Ext c.f Z H Z' H') (w : Wf c.K c.f Z' H' φ') : Rl c own Z' ρ φ' σ H' := by
  refine ⟨w, R.ext.trans e, R.len, fun i d h1 h2 h3 => ?_, fun i d h1 h2 => ?_, R.ne, R.pn, R.pk⟩
  · obtain ⟨v, e1, r⟩ := R.sh i d h1 h2 h3
    exact ⟨v, e1, r.mono e.z⟩
  · obtain ⟨v, e1, r⟩ := R.ow i d h1 h2
    refine ⟨v, e1, ?_⟩
    by_cases hm : d.mt = true
    · unfold Res at r ⊢
      rw [if_pos hm] at r ⊢
      obtain ⟨a, o, rfl, h0, hz, hf, ha, rc⟩ := r
      exact ⟨a, o, rfl, h0, e.n a (by rw [ha]; simp) hz, hf, e.h a o hf ha, rc.mono e.z⟩
    · unfold Res at r ⊢
      rw [if_neg hm] at r ⊢
      exact r.mono e.z
end

/-! ## an outcome's wish -/
def Post (c : Ct) (m : Md) (W : WX) (o : O D) (σ : L2.St) (Z H : Hp) (Q : VK) : Prop :=
  match o with
  | .ok d φ => ∀ v Z' H', Ext c.f Z H Z' H' → Wf c.K c.f Z' H' φ → Res m c.K c.f H Z' H' v d → Q v H'
  | .ex x l φ => ∀ cls dx Z' H', Ext c.f Z H Z' H' → Wf c.K c.f Z' H' φ → XRep c Z' H' x l cls dx → W cls dx σ H'
  | .bad => False
/-- an expression's reading by what it does -/
def tE (c : Ct) (own : List Ms) (m : Md) (W : WX) (A : SX) : TE := fun σ H Q => ∃ Z ρ φ, Rl c own Z ρ φ σ H ∧ Post c m W (A ρ φ) σ Z H Q
/-- an argument list's -/
abbrev SA := En → Fd → O (List D)
def RAll (m : Md) (K : PySem.W.Frag) (f : Addr) (H0 Z H : Hp) : List V → List D → Prop
  | [], [] => True
  | v :: vs, d :: ds => Res m K f H0 Z H v d ∧ RAll m K f H0 Z H vs ds
  | _, _ => False
theorem RAll.pmono {K : PySem.W.Frag} {f : Addr} {H0 Z H Z' H' : Hp} (e : Ext f Z H Z' H') : ∀ {vs : List V} {ds : List D}, RAll .p K f H0 Z H vs ds → RAll .p K f H0 Z' H' vs ds
  | [], [], _ => trivial
  | _ :: _, _ :: _, h => ⟨h.1.pmono e, RAll.pmono e h.2⟩
theorem RAll.smono {K : PySem.W.Frag} {f : Addr} {H0 Z H Z' H' H1 : Hp} (e : Ext f Z H Z' H') : ∀ {vs : List V} {ds : List D}, RAll .s K f H0 Z H vs ds → RAll .s K f H1 Z' H' vs ds
  | [], [], _ => trivial
  | _ :: _, _ :: _, h => ⟨Rep.mono e.z h.1, RAll.smono e h.2⟩
theorem RAll.start {m : Md} {K : PySem.W.Frag} {f : Addr} {H0 H1 Z H : Hp} (k : ∀ a, H0 a ≠ none → H1 a ≠ none) : ∀ {vs : List V} {ds : List D}, RAll m K f H1 Z H vs ds → RAll m K f H0 Z H vs ds
  | [], [], _ => trivial
  | _ :: _, _ :: _, h => ⟨h.1.start k, RAll.start k h.2⟩
theorem RAll.reps {K : PySem.W.Frag} {f : Addr} {H0 Z H : Hp} : ∀ {vs : List V} {ds : List D}, RAll .s K f H0 Z H vs ds → Reps K f Z vs ds
  | [], [], _ => .nil
  | _ :: _, _ :: _, h => .cons h.1 (RAll.reps h.2)
theorem RAll.length {m : Md} {K : PySem.W.Frag} {f : Addr} {H0 Z H : Hp} : ∀ {vs : List V} {ds : List D}, RAll m K f H0 Z H vs ds → vs.length = ds.length
  | [], [], _ => rfl
  | _ :: _, _ :: _, h => by simp [RAll.length h.2]
def PostA (c : Ct) (m : Md) (W : WX) (o : O (List D)) (σ : L2.St) (Z H : Hp) (Q : List V → Hp → Prop) : Prop :=
  match o with
  | .ok d φ => ∀ v Z' H', Ext c.f Z H Z' H' → Wf c.K c.f Z' H' φ → RAll m c.K c.f H Z' H' v d → Q v H'
  | .ex x l φ => ∀ cls dx Z' H', Ext c.f Z H Z' H' → Wf c.K c.f Z' H' φ → XRep c Z' H' x l cls dx → W cls dx σ H'
  | .bad => False
def tA (c : Ct) (own : List Ms) (m : Md) (W : WX) (A : SA) : TA := fun σ H Q => ∃ Z ρ φ, Rl c own Z ρ φ σ H ∧ PostA c m W (A ρ φ) σ Z H Q
/-- a test's -/
abbrev SB := En → Fd → O Bool
def PostB (c : Ct) (W : WX) (o : O Bool) (σ : L2.St) (Z H : Hp) (Q : Bool → Hp → Prop) : Prop :=
  match o with
  | .ok d φ => ∀ Z' H', Ext c.f Z H Z' H' → Wf c.K c.f Z' H' φ → Q d H'
  | .ex x l φ => ∀ cls dx Z' H', Ext c.f Z H Z' H' → Wf c.K c.f Z' H' φ → XRep c Z' H' x l cls dx → W cls dx σ H'
  | .bad => False
def tB (c : Ct) (own : List Ms) (W : WX) (A : SB) : TT := fun σ H Q => ∃ Z ρ φ, Rl c own Z ρ φ σ H ∧ PostB c W (A ρ φ) σ Z H Q

section
variable {c : Ct} {own : List Ms} {m m1 : Md} {W : WX} {Z H Z1 H1 : Hp} {σ : L2.St}
theorem Post.shift {o : O D} {Q : VK} (e : Ext c.f Z H Z1 H1) (h : Post c m W o σ Z H Q) : Post c m W o σ Z1 H1 Q := by
  cases o with
  | ok d φ => exact fun v Z' H' e' w r => h v Z' H' (e.trans e') w (r.start e.k)
  | ex x l φ => exact fun cls dx Z' H' e' w r => h cls dx Z' H' (e.trans e') w r
  | bad => exact h
theorem PostA.shift {o : O (List D)} {Q : List V → Hp → Prop} (e : Ext c.f Z H Z1 H1) (h : PostA c m W o σ Z H Q) : PostA c m W o σ Z1 H1 Q := by
  cases o with
  | ok d φ => exact fun v Z' H' e' w r => h v Z' H' (e.trans e') w (r.start e.k)
  | ex x l φ => exact fun cls dx Z' H' e' w r => h cls dx Z' H' (e.trans e') w r
  | bad => exact h
theorem PostB.shift {o : O Bool} {Q : Bool → Hp → Prop} (e : Ext c.f Z H Z1 H1) (h : PostB c W o σ Z H Q) : PostB c W o σ Z1 H1 Q := by
  cases o with
  | ok d φ => exact fun Z' H' e' w => h Z' H' (e.trans e') w
  | ex x l φ => exact fun cls dx Z' H' e' w r => h cls dx Z' H' (e.trans e') w r
  | bad => exact h
/-- the wishes of an expression in the midst: E .. any of the three posts of what follows -/
theorem Post.bind {α : Type} {x : O D} {k : D → Fd → O α} {E : O α → Hp → Hp → Prop} {R : VK}
    (hE : ∀ (o : O α) Z1 H1, Ext c.f Z H Z1 H1 → E o Z H → E o Z1 H1) (hX : ∀ y l φ, E (.ex y l φ) Z H → ∀ cls dx Z' H', Ext c.f Z H Z' H' → Wf c.K c.f Z' H' φ → XRep c Z' H' y l cls dx → W cls dx σ H') (hB : ¬ E .bad Z H)
    (h : E (x.bind k) Z H) (hr : ∀ d φ1 v Z1 H1, Ext c.f Z H Z1 H1 → Wf c.K c.f Z1 H1 φ1 → Res m1 c.K c.f H Z1 H1 v d → E (k d φ1) Z1 H1 → R v H1) : Post c m1 W x σ Z H R := by
  cases x with
  | ok d φ => exact fun v Z' H' e w r => hr d φ v Z' H' e w r (hE _ _ _ e h)
  | ex y l φ => exact hX y l φ h
  | bad => exact hB h
theorem Post.bindE {x : O D} {k : D → Fd → O D} {Q R : VK} (h : Post c m W (x.bind k) σ Z H Q)
    (hr : ∀ d φ1 v Z1 H1, Ext c.f Z H Z1 H1 → Wf c.K c.f Z1 H1 φ1 → Res m1 c.K c.f H Z1 H1 v d → Post c m W (k d φ1) σ Z1 H1 Q → R v H1) : Post c m1 W x σ Z H R :=
  Post.bind (E := fun o Z H => Post c m W o σ Z H Q) (fun _ _ _ e h => h.shift e) (fun _ _ _ h => h) (fun h => h) h hr
theorem Post.bindA {x : O D} {k : D → Fd → O (List D)} {Q : List V → Hp → Prop} {R : VK} (h : PostA c m W (x.bind k) σ Z H Q)
    (hr : ∀ d φ1 v Z1 H1, Ext c.f Z H Z1 H1 → Wf c.K c.f Z1 H1 φ1 → Res m1 c.K c.f H Z1 H1 v d → PostA c m W (k d φ1) σ Z1 H1 Q → R v H1) : Post c m1 W x σ Z H R :=
  Post.bind (E := fun o Z H => PostA c m W o σ Z H Q) (fun _ _ _ e h => h.shift e) (fun _ _ _ h => h) (fun h => h) h hr
theorem Post.bindB {x : O D} {k : D → Fd → O Bool} {Q : Bool → Hp → Prop} {R : VK} (h : PostB c W (x.bind k) σ Z H Q)
    (hr : ∀ d φ1 v Z1 H1, Ext c.f Z H Z1 H1 → Wf c.K c.f Z1 H1 φ1 → Res m1 c.K c.f H Z1 H1 v d → PostB c W (k d φ1) σ Z1 H1 Q → R v H1) : Post c m1 W x σ Z H R :=
  Post.bind (E := fun o Z H => PostB c W o σ Z H Q) (fun _ _ _ e h => h.shift e) (fun _ _ _ h => h) (fun h => h) h hr
theorem PostA.bind {α : Type} {x : O (List D)} {k : List D → Fd → O α} {E : O α → Hp → Hp → Prop} {R : List V → Hp → Prop}
    (hE : ∀ (o : O α) Z1 H1, Ext c.f Z H Z1 H1 → E o Z H → E o Z1 H1) (hX : ∀ y l φ, E (.ex y l φ) Z H → ∀ cls dx Z' H', Ext c.f Z H Z' H' → Wf c.K c.f Z' H' φ → XRep c Z' H' y l cls dx → W cls dx σ H') (hB : ¬ E .bad Z H)
    (h : E (x.bind k) Z H) (hr : ∀ d φ1 v Z1 H1, Ext c.f Z H Z1 H1 → Wf c.K c.f Z1 H1 φ1 → RAll m1 c.K c.f H Z1 H1 v d → E (k d φ1) Z1 H1 → R v H1) : PostA c m1 W x σ Z H R := by
  cases x with
  | ok d φ => exact fun v Z' H' e w r => hr d φ v Z' H' e w r (hE _ _ _ e h)
  | ex y l φ => exact hX y l φ h
  | bad => exact hB h
theorem PostA.bindE {x : O (List D)} {k : List D → Fd → O D} {Q : VK} {R : List V → Hp → Prop} (h : Post c m W (x.bind k) σ Z H Q)
    (hr : ∀ d φ1 v Z1 H1, Ext c.f Z H Z1 H1 → Wf c.K c.f Z1 H1 φ1 → RAll m1 c.K c.f H Z1 H1 v d → Post c m W (k d φ1) σ Z1 H1 Q → R v H1) : PostA c m1 W x σ Z H R :=
  PostA.bind (E := fun o Z H => Post c m W o σ Z H Q) (fun _ _ _ e h => h.shift e) (fun _ _ _ h => h) (fun h => h) h hr
theorem PostA.bindA {x : O (List D)} {k : List D → Fd → O (List D)} {Q : List V → Hp → Prop} {R : List V → Hp → Prop} (h : PostA c m W (x.bind k) σ Z H Q)
    (hr : ∀ d φ1 v Z1 H1, Ext c.f Z H Z1 H1 → Wf c.K c.f Z1 H1 φ1 → RAll m1 c.K c.f H Z1 H1 v d → PostA c m W (k d φ1) σ Z1 H1 Q → R v H1) : PostA c m1 W x σ Z H R :=
  PostA.bind (E := fun o Z H => PostA c m W o σ Z H Q) (fun _ _ _ e h => h.shift e) (fun _ _ _ h => h) (fun h => h) h hr
theorem PostB.bind {α : Type} {x : O Bool} {k : Bool → Fd → O α} {E : O α → Hp → Hp → Prop} {R : Bool → Hp → Prop}
    (hE : ∀ (o : O α) Z1 H1, Ext c.f Z H Z1 H1 → E o Z H → E o Z1 H1) (hX : ∀ y l φ, E (.ex y l φ) Z H → ∀ cls dx Z' H', Ext c.f Z H Z' H' → Wf c.K c.f Z' H' φ → XRep c Z' H' y l cls dx → W cls dx σ H') (hB : ¬ E .bad Z H)
    (h : E (x.bind k) Z H) (hr : ∀ d φ1 Z1 H1, Ext c.f Z H Z1 H1 → Wf c.K c.f Z1 H1 φ1 → E (k d φ1) Z1 H1 → R d H1) : PostB c W x σ Z H R := by
  cases x with
  | ok d φ => exact fun Z' H' e w => hr d φ Z' H' e w (hE _ _ _ e h)
  | ex y l φ => exact hX y l φ h
  | bad => exact hB h
theorem PostB.bindE {x : O Bool} {k : Bool → Fd → O D} {Q : VK} {R : Bool → Hp → Prop} (h : Post c m W (x.bind k) σ Z H Q)
    (hr : ∀ d φ1 Z1 H1, Ext c.f Z H Z1 H1 → Wf c.K c.f Z1 H1 φ1 → Post c m W (k d φ1) σ Z1 H1 Q → R d H1) : PostB c W x σ Z H R :=
  PostB.bind (E := fun o Z H => Post c m W o σ Z H Q) (fun _ _ _ e h => h.shift e) (fun _ _ _ h => h) (fun h => h) h hr
theorem PostB.bindB {x : O Bool} {k : Bool → Fd → O Bool} {Q : Bool → Hp → Prop} {R : Bool → Hp → Prop} (h : PostB c W (x.bind k) σ Z H Q)
    (hr : ∀ d φ1 Z1 H1, Ext c.f Z H Z1 H1 → Wf c.K c.f Z1 H1 φ1 → PostB c W (k d φ1) σ Z1 H1 Q → R d H1) : PostB c W x σ Z H R :=
  PostB.bind (E := fun o Z H => PostB c W o σ Z H Q) (fun _ _ _ e h => h.shift e) (fun _ _ _ h => h) (fun h => h) h hr
/-- changing the mode -/
theorem Post.mode {m2 : Md} {o : O D} {Q : VK} (h : Post c m W o σ Z H Q) (k : ∀ d φ v Z' H', Ext c.f Z H Z' H' → Wf c.K c.f Z' H' φ → Res m2 c.K c.f H Z' H' v d → ∃ Z2, Ext c.f Z H Z2 H' ∧ Wf c.K c.f Z2 H' φ ∧ Res m c.K c.f H Z2 H' v d) : Post c m2 W o σ Z H Q := by
  cases o with
  | ok d φ =>
    intro v Z' H' e w r
    obtain ⟨Z2, e2, w2, r2⟩ := k d φ v Z' H' e w r
    exact h v Z2 H' e2 w2 r2
  | ex x l φ => exact h
  | bad => exact h
end

/-! ## the judgements -/
theorem PE.weak {X : Cx} {e : Expr} {t t' : TE} (h : PE X e t) (k : ∀ σ H Q, t' σ H Q → t σ H Q) : PE X e t' := ⟨fun pins s σ H Q I q => h.run pins s σ H Q I (k σ H Q q)⟩
theorem PT.weak {X : Cx} {e : Expr} {t t' : TT} (h : PT X e t) (k : ∀ σ H Q, t' σ H Q → t σ H Q) : PT X e t' := ⟨fun pins s σ H Q I q => h.run pins s σ H Q I (k σ H Q q)⟩
theorem PW.weak {X : Cx} {e : Expr} {t t' : TT} (h : PW X e t) (k : ∀ σ H Q, t' σ H Q → t σ H Q) : PW X e t' := ⟨fun wh pins s σ H Q I q => h.run wh pins s σ H Q I (k σ H Q q)⟩
theorem PA.weak {X : Cx} {e : List Expr} {t t' : TA} (h : PA X e t) (k : ∀ σ H Q, t' σ H Q → t σ H Q) : PA X e t' := ⟨fun pos pins s σ H Q I q => h.run pos pins s σ H Q I (k σ H Q q)⟩
theorem PS.weak {X : Cx} {e : Stmt} {t t' : TS} (h : PS X e t) (k : ∀ D σ H, t' D σ H → t D σ H) : PS X e t' := ⟨fun pins s σ H D I q => h.run pins s σ H D I (k D σ H q)⟩
theorem PSs.weak {X : Cx} {e : List Stmt} {t t' : TS} (h : PSs X e t) (k : ∀ D σ H, t' D σ H → t D σ H) : PSs X e t' := ⟨fun pins s σ H D I q => h.run pins s σ H D I (k D σ H q)⟩
theorem PI.weak {X : Cx} {tg e : Expr} {t t' : TI} (h : PI X tg e t) (k : ∀ σ H R, t' σ H R → t σ H R) : PI X tg e t' := ⟨fun pins s σ H R I q => h.run pins s σ H R I (k σ H R q)⟩

/-- X's written part is c's; the judgement in short -/
structure Sc (X : Cx) (c : Ct) : Prop where
  K : X.K = c.K
abbrev EX (X : Cx) (c : Ct) (own : List Ms) (m : Md) (W : WX) (e : Expr) (A : SX) : Prop := PE X e (tE c own m W A)

section
variable {X : Cx} {c : Ct} {own : List Ms} {m : Md} {W : WX} {e : Expr} {A : SX}
/-- freezing a fresh cell -/
theorem freeze {Z H Z' H' : Hp} {φ : Fd} {a : Addr} {o : HO} {d : D} (e : Ext c.f Z H Z' H') (w : Wf c.K c.f Z' H' φ) (h0 : H a = none) (hz : Z' a = none) (hf : a ≠ c.f) (ha : H' a = some o) (rc : RepC c.K c.f Z' o d) :
    Ext c.f Z H (upd Z' a o) H' ∧ Wf c.K c.f (upd Z' a o) H' φ ∧ Rep c.K c.f (upd Z' a o) (.ref a) d := by
  have up : ∀ b u, Z' b = some u → upd Z' a o b = some u := fun b u q => by rw [upd_ne (ne_of_none q hz)]; exact q
  refine ⟨⟨fun b u q => up b u (e.z b u q), e.h, e.k, fun b hb hzb => ?_, e.d⟩, ⟨fun b u q => ?_, ?_, ?_, w.ok⟩, .cel upd_same (rc.mono up)⟩
  · have : b ≠ a := fun z => hb (z ▸ h0)
    rw [upd_ne this]
    exact e.n b hb hzb
  · by_cases hb : b = a
    · subst hb; rw [upd_same] at q; cases q; exact ha
    · rw [upd_ne hb] at q; exact w.sub b u q
  · rw [upd_ne (Ne.symm hf)]; exact w.zf
  · obtain ⟨s, h1, h2⟩ := w.feed
    exact ⟨s, h1.mono up, h2⟩
theorem EX.o2s (h : EX X c own .o W e A) : EX X c own .s W e A := by
  refine PE.weak h ?_
  rintro σ H Q ⟨Z, ρ, φ, R, p⟩
  refine ⟨Z, ρ, φ, R, p.mode fun d φ v Z' H' e w r => ?_⟩
  by_cases hm : d.mt = true
  · unfold Res at r
    rw [if_pos hm] at r
    obtain ⟨a, o, rfl, h0, hz, hf, ha, rc⟩ := r
    obtain ⟨e2, w2, r2⟩ := freeze e w h0 hz hf ha rc
    exact ⟨_, e2, w2, r2⟩
  · unfold Res at r
    rw [if_neg hm] at r
    exact ⟨Z', e, w, r⟩
theorem EX.s2p (h : EX X c own .s W e A) : EX X c own .p W e A := by
  refine PE.weak h ?_
  rintro σ H Q ⟨Z, ρ, φ, R, p⟩
  exact ⟨Z, ρ, φ, R, p.mode fun d φ v Z' H' e w r => ⟨Z', e, w, .inl r⟩⟩
theorem EX.o2p (h : EX X c own .o W e A) : EX X c own .p W e A := by
  refine PE.weak h ?_
  rintro σ H Q ⟨Z, ρ, φ, R, p⟩
  exact ⟨Z, ρ, φ, R, p.mode fun d φ v Z' H' e w r => ⟨Z', e, w, r.o2p⟩⟩
end

/-! ## names, constants -/
def eVar (i : Nat) : SX := fun ρ φ => match ρ[i]? with
  | some (some d) => .ok d φ
  | _ => .bad
def eInt (i : Int) : SX := fun _ φ => .ok (.int i) φ
def eBl (b : Bool) : SX := fun _ φ => .ok (.bl b) φ
def eNon : SX := fun _ φ => .ok .non φ
def eStr (x : Str) : SX := fun _ φ => .ok (.str x) φ
theorem eVar_ok {i : Nat} {ρ : En} {φ : Fd} {c : Ct} {m : Md} {W : WX} {σ : L2.St} {Z H : Hp} {Q : VK} (h : Post c m W (eVar i ρ φ) σ Z H Q) : ∃ d, ρ[i]? = some (some d) ∧ Post c m W (.ok d φ) σ Z H Q := by
  unfold eVar at h
  split at h
  · exact ⟨_, by assumption, h⟩
  · exact h.elim
section
variable {X : Cx} {c : Ct} {own : List Ms} {m : Md} {W : WX} {pos : Pos}
theorem x_var (i : Nat) {x : Str} (hN : X.N[i]? = some x := by rfl) (hv : Vis X.env.scope x := by first | exact Or.inl rfl | exact Or.inr (Or.inl rfl) | exact Or.inr (Or.inr rfl)) (hd : (x == ("__debug__" : Str)) = false := by decide)
    (hcd : (x == ("__classdict__" : Str)) = false := by decide) : EX X c own .p W (.Name x pos) (eVar i) := by
  refine PE.weak (pe_var hN hv hd hcd) ?_
  rintro σ H Q ⟨Z, ρ, φ, R, h⟩
  obtain ⟨d, e, h⟩ := eVar_ok h
  obtain ⟨v, e1, r⟩ := R.look e
  exact ⟨v, e1, h v Z H .refl R.wf r⟩
/-- a variable that is not own: its value may go anywhere -/
theorem x_varS (i : Nat) {x : Str} (ho : own[i]? ≠ some .o := by decide) (hp : own[i]? ≠ some .p := by decide) (hN : X.N[i]? = some x := by rfl) (hv : Vis X.env.scope x := by first | exact Or.inl rfl | exact Or.inr (Or.inl rfl) | exact Or.inr (Or.inr rfl)) (hd : (x == ("__debug__" : Str)) = false := by decide)
    (hcd : (x == ("__classdict__" : Str)) = false := by decide) : EX X c own .s W (.Name x pos) (eVar i) := by
  refine PE.weak (pe_var hN hv hd hcd) ?_
  rintro σ H Q ⟨Z, ρ, φ, R, h⟩
  obtain ⟨d, e, h⟩ := eVar_ok h
  obtain ⟨v, e1, r⟩ := R.sh i d e ho hp
  exact ⟨v, e1, h v Z H .refl R.wf r⟩
theorem x_int {i j} : EX X c own .o W (.Constant (.int i) j pos) (eInt i) :=
  PE.weak pe_int fun σ H Q ⟨Z, ρ, φ, R, h⟩ => h _ Z H .refl R.wf (Res.of_flat (.int i) rfl)
theorem x_bl {b j} : EX X c own .o W (.Constant (.bool b) j pos) (eBl b) :=
  PE.weak pe_bl fun σ H Q ⟨Z, ρ, φ, R, h⟩ => h _ Z H .refl R.wf (Res.of_flat (.bl b) rfl)
theorem x_non {j} : EX X c own .o W (.Constant .none j pos) eNon :=
  PE.weak pe_non fun σ H Q ⟨Z, ρ, φ, R, h⟩ => h _ Z H .refl R.wf (Res.of_flat .non rfl)
theorem x_str {x j} : EX X c own .o W (.Constant (.str x) j pos) (eStr x) :=
  PE.weak pe_str fun σ H Q ⟨Z, ρ, φ, R, h⟩ => h _ Z H .refl R.wf (Res.of_flat (.str x) rfl)
/-- a module's constant that is flat -/
theorem x_glob {x : Str} {v : V} {d : D} {u : Value} (hg : Gl X x := by rfl) (hm : X.mg x = some u) (r : RelV v u) (rd : ∀ K f Z, Rep K f Z v d) (hf : d.mt = false := by rfl) (hd : (x == ("__debug__" : Str)) = false := by decide) :
    EX X c own .o W (.Name x pos) (fun _ φ => .ok d φ) :=
  PE.weak (pe_glob hg hm r hd) fun σ H Q ⟨Z, ρ, φ, R, h⟩ => h _ Z H .refl R.wf (Res.of_flat (rd _ _ _) hf)

/-! ## operators by values -/
def eBin (g : D → D → Option D) (A B : SX) : SX := fun ρ φ => (A ρ φ).bind fun d φ1 => (B ρ φ1).bind fun e φ2 => ofO (g d e) φ2
def eUn (g : D → Option D) (A : SX) : SX := fun ρ φ => (A ρ φ).bind fun d φ1 => ofO (g d) φ1
/-- g tells what the rule r asks -/
def OpG (r : R2) (m : Md) (c : Ct) (g : D → D → Option D) : Prop :=
  ∀ (Z H : Hp) (φ : Fd) (x y : V) (d e z : D) (W : WX) (σ : L2.St) (Q : VK), Wf c.K c.f Z H φ → Res .p c.K c.f H Z H x d → Res .p c.K c.f H Z H y e → g d e = some z → Post c m W (.ok z φ) σ Z H Q → r x y H Q
def UnG (r : V → Hp → VK → Prop) (m : Md) (c : Ct) (g : D → Option D) : Prop :=
  ∀ (Z H : Hp) (φ : Fd) (x : V) (d z : D) (W : WX) (σ : L2.St) (Q : VK), Wf c.K c.f Z H φ → Res .p c.K c.f H Z H x d → g d = some z → Post c m W (.ok z φ) σ Z H Q → r x H Q
theorem ofO_ok {α : Type} {o : Option α} {φ : Fd} {E : O α → Prop} (h : E (ofO o φ)) (hb : ¬ E .bad) : ∃ z, o = some z ∧ E (.ok z φ) := by
  cases o with
  | none => exact absurd h hb
  | some z => exact ⟨z, rfl, h⟩
theorem bin_core {r : R2} {g : D → D → Option D} {A B : SX} (hg : OpG r m c g) {σ : L2.St} {H : Hp} {Q : VK} (h : tE c own m W (eBin g A B) σ H Q) :
    tOp r (tE c own .p W A) (tE c own .p W B) σ H Q := by
  obtain ⟨Z, ρ, φ, R, h⟩ := h
  refine ⟨Z, ρ, φ, R, Post.bindE h fun d φ1 x Z1 H1 e1 w1 r1 h1 => ?_⟩
  refine ⟨Z1, ρ, φ1, R.more e1 w1, Post.bindE h1 fun e φ2 y Z2 H2 e2 w2 r2 h2 => ?_⟩
  obtain ⟨z, hz, h3⟩ := ofO_ok (E := fun o => Post c m W o σ Z2 H2 Q) h2 fun z => z
  exact hg Z2 H2 φ2 x y d e z W σ Q w2 (show Res .p c.K c.f H2 Z2 H2 x d from r1.pmono e2) (show Res .p c.K c.f H2 Z2 H2 y e from r2) hz h3
theorem x_bin {op : Operator} {r : R2} {g : D → D → Option D} {a b : Expr} {A B : SX} (ho : OpR X (binaryOp op) r) (hg : OpG r m c g) (ha : EX X c own .p W a A) (hb : EX X c own .p W b B) :
    EX X c own m W (.BinOp a op b pos) (eBin g A B) := PE.weak (pe_op ho ha hb) fun _ _ _ h => bin_core hg h
theorem x_cmp {op : CmpOp} {r : R2} {g : D → D → Option D} {a b : Expr} {A B : SX} (ho : OpR X (compareOp op) r) (hg : OpG r m c g) (ha : EX X c own .p W a A) (hb : EX X c own .p W b B) (hm : behindInMarks op b = false) :
    EX X c own m W (.Compare a [op] [b] pos) (eBin g A B) := PE.weak (pe_cmpR ho ha hb hm) fun _ _ _ h => bin_core hg h
theorem un_core {r : V → Hp → VK → Prop} {g : D → Option D} {A : SX} (hg : UnG r m c g) {σ : L2.St} {H : Hp} {Q : VK} (h : tE c own m W (eUn g A) σ H Q) : tUn r (tE c own .p W A) σ H Q := by
  obtain ⟨Z, ρ, φ, R, h⟩ := h
  refine ⟨Z, ρ, φ, R, Post.bindE h fun d φ1 x Z1 H1 e1 w1 r1 h1 => ?_⟩
  obtain ⟨z, hz, h3⟩ := ofO_ok (E := fun o => Post c m W o σ Z1 H1 Q) h1 fun z => z
  exact hg Z1 H1 φ1 x d z W σ Q w1 (show Res .p c.K c.f H1 Z1 H1 x d from r1) hz h3
theorem x_un {op : UnaryOp} {r : V → Hp → VK → Prop} {g : D → Option D} {a : Expr} {A : SX} (ho : UnR X (unaryOp op) r) (hg : UnG r m c g) (ha : EX X c own .p W a A) : EX X c own m W (.UnaryOp op a pos) (eUn g A) :=
  PE.weak (pe_un ho ha) fun _ _ _ h => un_core hg h

/-! ## argument lists, calls of built-ins, displays -/
def aNil : SA := fun _ φ => .ok [] φ
def aCons (A : SX) (B : SA) : SA := fun ρ φ => (A ρ φ).bind fun d φ1 => (B ρ φ1).bind fun ds φ2 => .ok (d :: ds) φ2
abbrev AX (X : Cx) (c : Ct) (own : List Ms) (m : Md) (W : WX) (es : List Expr) (A : SA) : Prop := PA X es (tA c own m W A)
theorem x_nil : AX X c own m W [] aNil := PA.weak pa_nil fun σ H Q ⟨Z, ρ, φ, R, h⟩ => h [] Z H .refl R.wf trivial
theorem Res.mono {K : PySem.W.Frag} {f : Addr} {H0 Z H Z' H' : Hp} {v : V} {d : D} (r : Res m K f H0 Z H v d) (e : Ext f Z H Z' H') : Res m K f H0 Z' H' v d := by
  cases m with
  | s => exact Rep.mono e.z r
  | p => exact r.pmono e
  | d n => exact ⟨Rep.mono e.z r.1, Nw.mono e.z r.2⟩
  | o =>
    by_cases hm : d.mt = true
    · unfold Res at r ⊢
      rw [if_pos hm] at r ⊢
      obtain ⟨a, o, rfl, h0, hz, hf, ha, rc⟩ := r
      exact ⟨a, o, rfl, h0, e.n a (by rw [ha]; simp) hz, hf, e.h a o hf ha, rc.mono e.z⟩
    · unfold Res at r ⊢
      rw [if_neg hm] at r ⊢
      exact r.mono e.z
theorem Res.any {K : PySem.W.Frag} {f : Addr} {H0 H1 Z H : Hp} {v : V} {d : D} (hm : m = .s ∨ m = .p) (r : Res m K f H0 Z H v d) : Res m K f H1 Z H v d := by
  cases m with
  | s => exact r
  | p => exact r
  | o => rcases hm with h | h <;> cases h
  | d n => rcases hm with h | h <;> cases h
theorem RAll.any {K : PySem.W.Frag} {f : Addr} {H0 H1 Z H : Hp} (hm : m = .s ∨ m = .p) : ∀ {vs : List V} {ds : List D}, RAll m K f H0 Z H vs ds → RAll m K f H1 Z H vs ds
  | [], [], _ => trivial
  | _ :: _, _ :: _, h => ⟨h.1.any hm, RAll.any hm h.2⟩
theorem x_cons {e : Expr} {es : List Expr} {A : SX} {B : SA} (ha : EX X c own m W e A) (hb : AX X c own m W es B) (hm : m = .s ∨ m = .p := by decide) (hs : starEach (e :: es) X.env = (false, eval e X.env) :: starEach es X.env := by rfl) : AX X c own m W (e :: es) (aCons A B) := by
  refine PA.weak (pa_cons ha hb hs) ?_
  rintro σ H Q ⟨Z, ρ, φ, R, h⟩
  refine ⟨Z, ρ, φ, R, Post.bindA h fun d φ1 x Z1 H1 e1 w1 r1 h1 => ?_⟩
  refine ⟨Z1, ρ, φ1, R.more e1 w1, PostA.bindA h1 fun ds φ2 xs Z2 H2 e2 w2 r2 h2 => ?_⟩
  exact h2 (x :: xs) Z2 H2 .refl w2 ⟨(r1.mono e2).any hm, r2.any hm⟩
/-! displays -/
def eLst (A : SA) : SX := fun ρ φ => (A ρ φ).bind fun ds φ1 => if ds.length ≤ sizeLine then .ok (.lst ds) φ1 else .bad
def eTup (A : SA) : SX := fun ρ φ => (A ρ φ).bind fun ds φ1 => if ds.length ≤ sizeLine then .ok (.tup ds) φ1 else .bad
/-- a new cell, own -/
theorem Post.newO {o : HO} {d : D} {φ : Fd} {Z H : Hp} {σ : L2.St} {Q : VK} (w : Wf c.K c.f Z H φ) (rc : RepC c.K c.f Z o d) (h : Post c .o W (.ok d φ) σ Z H Q) : ∀ p, H p = none → Q (.ref p) (upd H p o) := by
  intro p hp
  have hz : Z p = none := by
    cases e : Z p with
    | none => rfl
    | some u => rw [w.sub p u e] at hp; cases hp
  have hf : p ≠ c.f := fun e => w.hf (e ▸ hp)
  have up : ∀ b u, H b = some u → upd H p o b = some u := fun b u q => by rw [upd_ne (ne_of_none q hp)]; exact q
  have e : Ext c.f Z H Z (upd H p o) := ⟨fun _ _ q => q, fun b u _ q => up b u q, fun b hb => by
    cases e : H b with
    | none => exact absurd e hb
    | some u => rw [up b u e]; simp, fun _ _ q => q, .same (upd_ne (Ne.symm hf))⟩
  refine h _ Z _ e ⟨fun b u q => up b u (w.sub b u q), w.zf, ?_, w.ok⟩ ?_
  · obtain ⟨s, h1, h2⟩ := w.feed
    exact ⟨s, h1, up _ _ h2⟩
  · have hm : d.mt = true := by cases rc <;> rfl
    unfold Res
    rw [if_pos hm]
    exact ⟨p, o, rfl, hp, hz, hf, upd_same, rc⟩
/-- a new tuple, frozen -/
theorem Post.newT {m : Md} {vs : List V} {ds : List D} {φ : Fd} {Z H : Hp} {σ : L2.St} {Q : VK} (w : Wf c.K c.f Z H φ) (rc : Reps c.K c.f Z vs ds) (h : Post c m W (.ok (.tup ds) φ) σ Z H Q) : ∀ p, H p = none → Q (.ref p) (upd H p (.tup vs)) := by
  intro p hp
  have hz : Z p = none := by
    cases e : Z p with
    | none => rfl
    | some u => rw [w.sub p u e] at hp; cases hp
  have hf : p ≠ c.f := fun e => w.hf (e ▸ hp)
  have up : ∀ b u, H b = some u → upd H p (.tup vs) b = some u := fun b u q => by rw [upd_ne (ne_of_none q hp)]; exact q
  have upz : ∀ b u, Z b = some u → upd Z p (.tup vs) b = some u := fun b u q => by rw [upd_ne (ne_of_none q hz)]; exact q
  have e : Ext c.f Z H (upd Z p (.tup vs)) (upd H p (.tup vs)) := ⟨upz, fun b u _ q => up b u q, fun b hb => by
    cases e : H b with
    | none => exact absurd e hb
    | some u => rw [up b u e]; simp, fun b hb q => by rw [upd_ne (fun z => hb (by rw [z]; exact hp))]; exact q, .same (upd_ne (Ne.symm hf))⟩
  refine h _ _ _ e ⟨fun b u q => ?_, ?_, ?_, w.ok⟩ ?_
  · by_cases hb : b = p
    · subst hb; rw [upd_same] at q; cases q; exact upd_same
    · rw [upd_ne hb] at q; exact up b u (w.sub b u q)
  · rw [upd_ne (Ne.symm hf)]; exact w.zf
  · obtain ⟨s, h1, h2⟩ := w.feed
    exact ⟨s, h1.mono upz, up _ _ h2⟩
  · exact Res.of_flat (.tup (SqT.of upd_same) (rc.mono upz)) rfl
theorem iteO_ok {b : Prop} [Decidable b] {α : Type} {a : α} {φ : Fd} {E : O α → Prop} (h : E (if b then .ok a φ else .bad)) (hb : ¬ E .bad) : b ∧ E (.ok a φ) := by
  by_cases hc : b
  · rw [if_pos hc] at h; exact ⟨hc, h⟩
  · rw [if_neg hc] at h; exact absurd h hb
theorem x_lst {es : List Expr} {A : SA} (ha : AX X c own .s W es A) : EX X c own .o W (.List es pos) (eLst A) := by
  refine PE.weak (pe_lst ha) ?_
  rintro σ H Q ⟨Z, ρ, φ, R, h⟩
  refine ⟨Z, ρ, φ, R, ?_⟩
  refine PostA.bindE h fun ds φ1 xs Z1 H1 e1 w1 r1 h1 => ?_
  obtain ⟨hl, h2⟩ := iteO_ok (E := fun o => Post c .o W o σ Z1 H1 Q) h1 fun z => z
  exact ⟨by rw [r1.length]; exact hl, h2.newO w1 (.lst r1.reps)⟩
theorem x_tup {es : List Expr} {A : SA} {x1} (ha : AX X c own .s W es A) : EX X c own m W (.Tuple es x1 pos) (eTup A) := by
  refine PE.weak (pe_tup ha) ?_
  rintro σ H Q ⟨Z, ρ, φ, R, h⟩
  refine ⟨Z, ρ, φ, R, ?_⟩
  refine PostA.bindE h fun ds φ1 xs Z1 H1 e1 w1 r1 h1 => ?_
  obtain ⟨hl, h2⟩ := iteO_ok (E := fun o => Post c m W o σ Z1 H1 Q) h1 fun z => z
  exact ⟨by rw [r1.length]; exact hl, h2.newT w1 r1.reps⟩
/-! calls of built-ins -/
def CallG (r : List V → Hp → VK → Prop) (m : Md) (c : Ct) (g : List D → Option D) : Prop :=
  ∀ (Z H : Hp) (φ : Fd) (xs : List V) (ds : List D) (z : D) (W : WX) (σ : L2.St) (Q : VK), Wf c.K c.f Z H φ → RAll .p c.K c.f H Z H xs ds → g ds = some z → Post c m W (.ok z φ) σ Z H Q → r xs H Q
def eCB (g : List D → Option D) (A : SA) : SX := fun ρ φ => (A ρ φ).bind fun ds φ1 => ofO (g ds) φ1
theorem cb_core {r : List V → Hp → VK → Prop} {g : List D → Option D} {A : SA} (hg : CallG r m c g) {σ : L2.St} {H : Hp} {Q : VK} (h : tE c own m W (eCB g A) σ H Q) : tCB r (tA c own .p W A) σ H Q := by
  obtain ⟨Z, ρ, φ, R, h⟩ := h
  refine ⟨Z, ρ, φ, R, PostA.bindE h fun ds φ1 xs Z1 H1 e1 w1 r1 h1 => ?_⟩
  obtain ⟨z, hz, h3⟩ := ofO_ok (E := fun o => Post c m W o σ Z1 H1 Q) h1 fun z => z
  exact hg Z1 H1 φ1 xs ds z W σ Q w1 (r1.any (by decide)) hz h3
theorem x_callB {id : String} {r : List V → Hp → VK → Prop} {g : List D → Option D} {x : Str} {p : Pos} {e : Expr} {es : List Expr} {A : SA} (hc : CallR X (.builtin id) r) (hG : CallG r m c g) (hm : X.mg x = none) (hv : bootBuiltins x = some (.builtin id)) (ha : AX X c own .p W (e :: es) A)
    (hg : Gl X x := by rfl) (hn : x ≠ "__name__" := by decide) (hdb : (x == ("__debug__" : Str)) = false := by decide)
    (he : starEach (e :: es) X.env = (false, eval e X.env) :: starEach es X.env := by rfl) (hpl : (backTo pos (starEach es X.env)).any (·.1) = false := by rfl) : EX X c own m W (.Call (.Name x p) (e :: es) [] pos) (eCB g A) :=
  PE.weak (pe_callB hc hg hm hv ha hn hdb he hpl) fun _ _ _ h => cb_core hG h
theorem x_callT {T : String} {r : List V → Hp → VK → Prop} {g : List D → Option D} {x : Str} {p : Pos} {e : Expr} {es : List Expr} {A : SA} (hc : CallR X (.type T) r) (hG : CallG r m c g) (hm : X.mg x = none) (hv : bootBuiltins x = some (.type T)) (ha : AX X c own .p W (e :: es) A)
    (hg : Gl X x := by rfl) (hn : x ≠ "__name__" := by decide) (hdb : (x == ("__debug__" : Str)) = false := by decide)
    (he : starEach (e :: es) X.env = (false, eval e X.env) :: starEach es X.env := by rfl) (hpl : (backTo pos (starEach es X.env)).any (·.1) = false := by rfl) : EX X c own m W (.Call (.Name x p) (e :: es) [] pos) (eCB g A) :=
  PE.weak (pe_callTy hc hg hm hv ha hn hdb he hpl) fun _ _ _ h => cb_core hG h

/-! tests -/
abbrev BX (X : Cx) (c : Ct) (own : List Ms) (W : WX) (e : Expr) (A : SB) : Prop := PT X e (tB c own W A)
def bVal (A : SX) : SB := fun ρ φ => (A ρ φ).bind fun d φ1 => match d with | .bl b => .ok b φ1 | _ => .bad
/-- an expression that gives True or False, as a test -/
theorem b_val {e : Expr} {A : SX} (h : EX X c own m W e A) (he : ∀ whole, isTrue e X.env whole = (do let v ← whole; standAt e.pos; holding [v] (truthy v)) := by intro _; rfl) : BX X c own W e (bVal A) := by
  refine PT.weak (pt_val h he) ?_
  rintro σ H Q ⟨Z, ρ, φ, R, h⟩
  refine ⟨Z, ρ, φ, R, ?_⟩
  refine Post.bindB h fun d φ1 v Z1 H1 e1 w1 r1 h1 => ?_
  cases d with
  | bl b => exact ⟨b, r1.bl, h1 Z1 H1 .refl w1⟩
  | _ => exact h1.elim
def bCmp (g : D → D → Option D) (A B : SX) : SB := bVal (eBin g A B)
/-- a comparison as a test -/
theorem b_cmp {op : CmpOp} {r : R2} {g : D → D → Option D} {a b : Expr} {A B : SX} (ho : OpR X (compareOp op) r) (hg : OpG r .o c g) (ha : EX X c own .p W a A) (hb : EX X c own .p W b B) (hm : behindInMarks op b = false) :
    BX X c own W (.Compare a [op] [b] pos) (bCmp g A B) := by
  refine PT.weak (pt_cmpR ho ha hb hm) ?_
  rintro σ H Q ⟨Z, ρ, φ, R, h⟩
  show tOp r (tE c own .p W A) (tE c own .p W B) σ H fun x H' => ∃ k, x = .bl k ∧ Q k H'
  refine bin_core (m := .o) hg ⟨Z, ρ, φ, R, ?_⟩
  refine Post.bindB h fun d φ1 v Z1 H1 e1 w1 r1 h1 => ?_
  cases d with
  | bl b => exact ⟨b, r1.bl, h1 Z1 H1 .refl w1⟩
  | _ => exact h1.elim
/-! truth of any value -/
def truD : D → Option Bool
  | .non => some false
  | .bl b => some b
  | .int i => some (i != 0)
  | .str y => if y.length ≤ sizeLine then some ((y.length : Int) != 0) else none
  | .lst l => some (!l.isEmpty)
  | .tup l => some (!l.isEmpty)
  | .dk l => some (!l.isEmpty)
  | _ => none
def bTru (A : SX) : SB := fun ρ φ => (A ρ φ).bind fun d φ1 => ofO (truD d) φ1
theorem isEmpty_reps {K : PySem.W.Frag} {f : Addr} {Z : Hp} {vs : List V} {ds : List D} (h : Reps K f Z vs ds) : (!ds.isEmpty) = !vs.isEmpty := by cases h <;> rfl
theorem isEmpty_kreps {K : PySem.W.Frag} {f : Addr} {Z : Hp} {vs : List (Key × V)} {ds : List (Key × D)} (h : KReps K f Z vs ds) : (!ds.isEmpty) = !vs.isEmpty := by cases h <;> rfl
theorem tru_core {Z H : Hp} {φ : Fd} {v : V} {d : D} {k : Bool} (hK : X.K = c.K) (w : Wf c.K c.f Z H φ) (r : Res .p c.K c.f H Z H v d) (e : truD d = some k) : TruV X.K v H k := by
  cases d with
  | non => cases e; rw [r.non]; rfl
  | bl b => cases e; rw [r.bl]; rfl
  | int i => cases e; rw [r.int]; rfl
  | str y =>
    rw [r.str]
    have e' : (if y.length ≤ sizeLine then some ((y.length : Int) != 0) else none) = some k := e
    by_cases hy : y.length ≤ sizeLine
    · rw [if_pos hy] at e'; cases e'; exact ⟨hy, rfl⟩
    · rw [if_neg hy] at e'; cases e'
  | lst l =>
    cases e
    obtain ⟨a, vs, rfl, ha, q⟩ := r.lst w
    exact .inl ⟨vs, SqL.of ha, isEmpty_reps q⟩
  | tup l =>
    cases e
    obtain ⟨a, vs, rfl, ha, q⟩ := r.tup
    exact .inr (.inl ⟨vs, by rw [hK]; exact w.sqT ha, isEmpty_reps q⟩)
  | dk l =>
    cases e
    obtain ⟨a, vs, rfl, ha, q⟩ := r.dk w
    exact .inr (.inr ⟨vs, ha, isEmpty_kreps q⟩)
  | dt l => cases e
  | feed => cases e
  | exn _ _ => cases e
  | fnv _ => cases e
theorem b_tru (hK : X.K = c.K) {e : Expr} {A : SX} (h : EX X c own .p W e A) (he : ∀ whole, isTrue e X.env whole = (do let v ← whole; standAt e.pos; holding [v] (truthy v)) := by intro _; rfl) : BX X c own W e (bTru A) := by
  refine PT.weak (pt_truth h he) ?_
  rintro σ H Q ⟨Z, ρ, φ, R, h⟩
  refine ⟨Z, ρ, φ, R, ?_⟩
  refine Post.bindB h fun d φ1 v Z1 H1 e1 w1 r1 h1 => ?_
  obtain ⟨k, hk, h2⟩ := ofO_ok (E := fun o => PostB c W o σ Z1 H1 Q) h1 fun z => z
  exact ⟨k, tru_core hK w1 (r1.any (by decide)) hk, h2 Z1 H1 .refl w1⟩
/-! and, or, not, if .. else -/
def bAnd (A B : SB) : SB := fun ρ φ => (A ρ φ).bind fun b φ1 => if b = true then B ρ φ1 else .ok false φ1
def bOr (A B : SB) : SB := fun ρ φ => (A ρ φ).bind fun b φ1 => if b = true then .ok true φ1 else B ρ φ1
def bNot (A : SB) : SB := fun ρ φ => (A ρ φ).bind fun b φ1 => .ok (!b) φ1
abbrev WW (X : Cx) (c : Ct) (own : List Ms) (W : WX) (e : Expr) (A : SB) : Prop := PW X e (tB c own W A)
section
variable {a b : Expr} {rest : List Expr} {A B : SB}
theorem w_and1 (h : BX X c own W a A) : WW X c own W (.BoolOp .And [a] pos) A := pw_and1 h
theorem w_or1 (h : BX X c own W a A) : WW X c own W (.BoolOp .Or [a] pos) A := pw_or1 h
theorem w_and (ha : BX X c own W a A) (hb : WW X c own W (.BoolOp .And (b :: rest) pos) B) : WW X c own W (.BoolOp .And (a :: b :: rest) pos) (bAnd A B) := by
  refine PW.weak (pw_and ha hb) ?_
  rintro σ H Q ⟨Z, ρ, φ, R, h⟩
  refine ⟨Z, ρ, φ, R, PostB.bindB h fun b φ1 Z1 H1 e1 w1 h1 => ?_⟩
  cases b with
  | true => exact ⟨Z1, ρ, φ1, R.more e1 w1, h1⟩
  | false => exact h1 Z1 H1 .refl w1
theorem w_or (ha : BX X c own W a A) (hb : WW X c own W (.BoolOp .Or (b :: rest) pos) B) : WW X c own W (.BoolOp .Or (a :: b :: rest) pos) (bOr A B) := by
  refine PW.weak (pw_or ha hb) ?_
  rintro σ H Q ⟨Z, ρ, φ, R, h⟩
  refine ⟨Z, ρ, φ, R, PostB.bindB h fun b φ1 Z1 H1 e1 w1 h1 => ?_⟩
  cases b with
  | false => exact ⟨Z1, ρ, φ1, R.more e1 w1, h1⟩
  | true => exact h1 Z1 H1 .refl w1
theorem b_pw (h : WW X c own W a A) : BX X c own W a A := PW.pt h
theorem b_not (ha : BX X c own W a A) : BX X c own W (.UnaryOp .Not a pos) (bNot A) := by
  refine PT.weak (pt_not ha) ?_
  rintro σ H Q ⟨Z, ρ, φ, R, h⟩
  exact ⟨Z, ρ, φ, R, PostB.bindB h fun b φ1 Z1 H1 e1 w1 h1 => h1 Z1 H1 .refl w1⟩
def eIf (T : SB) (A B : SX) : SX := fun ρ φ => (T ρ φ).bind fun b φ1 => if b = true then A ρ φ1 else B ρ φ1
theorem x_if {t a b : Expr} {T : SB} {A B : SX} (ht : BX X c own W t T) (ha : EX X c own m W a A) (hb : EX X c own m W b B) : EX X c own m W (.IfExp t a b pos) (eIf T A B) := by
  refine PE.weak (pe_ifExp ht ha hb) ?_
  rintro σ H Q ⟨Z, ρ, φ, R, h⟩
  refine ⟨Z, ρ, φ, R, PostB.bindE h fun b φ1 Z1 H1 e1 w1 h1 => ?_⟩
  cases b with
  | true => exact ⟨Z1, ρ, φ1, R.more e1 w1, h1⟩
  | false => exact ⟨Z1, ρ, φ1, R.more e1 w1, h1⟩
/-! .. as values -/
def eAnd (A B : SX) : SX := fun ρ φ => (A ρ φ).bind fun d φ1 => match d with | .bl true => B ρ φ1 | .bl false => .ok (.bl false) φ1 | _ => .bad
def eOr (A B : SX) : SX := fun ρ φ => (A ρ φ).bind fun d φ1 => match d with | .bl false => B ρ φ1 | .bl true => .ok (.bl true) φ1 | _ => .bad
def eNot (A : SX) : SX := fun ρ φ => (A ρ φ).bind fun d φ1 => match d with | .bl b => .ok (.bl (!b)) φ1 | _ => .bad
theorem x_one {op} {A : SX} (h : EX X c own m W a A) : EX X c own m W (.BoolOp op [a] pos) A := pe_one h
theorem x_and {A B : SX} (ha : EX X c own .p W a A) (hb : EX X c own m W (.BoolOp .And (b :: rest) pos) B) : EX X c own m W (.BoolOp .And (a :: b :: rest) pos) (eAnd A B) := by
  refine PE.weak (pe_and ha hb) ?_
  rintro σ H Q ⟨Z, ρ, φ, R, h⟩
  refine ⟨Z, ρ, φ, R, Post.bindE h fun d φ1 x Z1 H1 e1 w1 r1 h1 => ?_⟩
  cases d with
  | bl b =>
    cases b with
    | true => exact ⟨true, r1.bl, ⟨Z1, ρ, φ1, R.more e1 w1, h1⟩⟩
    | false => exact ⟨false, r1.bl, h1 _ Z1 H1 .refl w1 (Res.of_flat (.bl false) rfl)⟩
  | _ => exact h1.elim
theorem x_or {A B : SX} (ha : EX X c own .p W a A) (hb : EX X c own m W (.BoolOp .Or (b :: rest) pos) B) : EX X c own m W (.BoolOp .Or (a :: b :: rest) pos) (eOr A B) := by
  refine PE.weak (pe_or ha hb) ?_
  rintro σ H Q ⟨Z, ρ, φ, R, h⟩
  refine ⟨Z, ρ, φ, R, Post.bindE h fun d φ1 x Z1 H1 e1 w1 r1 h1 => ?_⟩
  cases d with
  | bl b =>
    cases b with
    | false => exact ⟨false, r1.bl, ⟨Z1, ρ, φ1, R.more e1 w1, h1⟩⟩
    | true => exact ⟨true, r1.bl, h1 _ Z1 H1 .refl w1 (Res.of_flat (.bl true) rfl)⟩
  | _ => exact h1.elim
theorem x_not {A : SX} (ha : EX X c own .p W a A) : EX X c own m W (.UnaryOp .Not a pos) (eNot A) := by
  refine PE.weak (pe_not ha) ?_
  rintro σ H Q ⟨Z, ρ, φ, R, h⟩
  refine ⟨Z, ρ, φ, R, Post.bindE h fun d φ1 x Z1 H1 e1 w1 r1 h1 => ?_⟩
  cases d with
  | bl b => exact ⟨b, r1.bl, h1 _ Z1 H1 .refl w1 (Res.of_flat (.bl _) rfl)⟩
  | _ => exact h1.elim
end
end
end Pf

set_option Elab.async false
set_option linter.all false
set_option maxRecDepth 100000
set_option maxHeartbeats 4000000
namespace Pf
open PySem PySem.Spec PyProof.Rows L2

theorem Post.now {c : Ct} {m : Md} {W : WX} {z : D} {φ : Fd} {σ : L2.St} {Z H : Hp} {Q : VK} {v : V} (h : Post c m W (.ok z φ) σ Z H Q) (w : Wf c.K c.f Z H φ) (r : Res m c.K c.f H Z H v z) : Q v H := h v Z H .refl w r
theorem Post.nowI {c : Ct} {m : Md} {W : WX} {i : Int} {φ : Fd} {σ : L2.St} {Z H : Hp} {Q : VK} (h : Post c m W (.ok (.int i) φ) σ Z H Q) (w : Wf c.K c.f Z H φ) : Q (.int i) H := h _ Z H .refl w (Res.of_flat (.int i) rfl)
theorem Post.nowB {c : Ct} {m : Md} {W : WX} {b : Bool} {φ : Fd} {σ : L2.St} {Z H : Hp} {Q : VK} (h : Post c m W (.ok (.bl b) φ) σ Z H Q) (w : Wf c.K c.f Z H φ) : Q (.bl b) H := h _ Z H .refl w (Res.of_flat (.bl b) rfl)
theorem Post.nowS {c : Ct} {m : Md} {W : WX} {b : Str} {φ : Fd} {σ : L2.St} {Z H : Hp} {Q : VK} (h : Post c m W (.ok (.str b) φ) σ Z H Q) (w : Wf c.K c.f Z H φ) : Q (.str b) H := h _ Z H .refl w (Res.of_flat (.str b) rfl)

/-! ## numbers -/
def gI (g : Int → Int → Int) : D → D → Option D
  | .int i, .int j => some (.int (g i j))
  | _, _ => none
def gIB (g : Int → Int → Bool) : D → D → Option D
  | .int i, .int j => some (.bl (g i j))
  | _, _ => none
def gIc (C : Int → Int → Bool) (g : Int → Int → Int) : D → D → Option D
  | .int i, .int j => if C i j = true then some (.int (g i j)) else none
  | _, _ => none
theorem gI_ok {m : Md} {c : Ct} {g : Int → Int → Int} : OpG (rI0 fun i j => .int (g i j)) m c (gI g) := by
  intro Z H φ x y d e z W σ Q w rx ry hg h
  cases d with
  | int i =>
    cases e with
    | int j => cases hg; exact ⟨i, j, rx.int, ry.int, h.nowI w⟩
    | _ => cases hg
  | _ => cases hg
theorem gIB_ok {m : Md} {c : Ct} {g : Int → Int → Bool} : OpG (rI0 fun i j => .bl (g i j)) m c (gIB g) := by
  intro Z H φ x y d e z W σ Q w rx ry hg h
  cases d with
  | int i =>
    cases e with
    | int j => cases hg; exact ⟨i, j, rx.int, ry.int, h.nowB w⟩
    | _ => cases hg
  | _ => cases hg
theorem gIc_ok {m : Md} {c : Ct} {C : Int → Int → Bool} {C' : Int → Int → Prop} {g : Int → Int → Int} (hC : ∀ i j, C i j = true → C' i j) : OpG (rI C' fun i j => .int (g i j)) m c (gIc C g) := by
  intro Z H φ x y d e z W σ Q w rx ry hg h
  cases d with
  | int i =>
    cases e with
    | int j =>
      have hg' : (if C i j = true then some (D.int (g i j)) else none) = some z := hg
      by_cases q : C i j = true
      · rw [if_pos q] at hg'; cases hg'
        exact ⟨i, j, rx.int, ry.int, hC _ _ q, h.nowI w⟩
      · rw [if_neg q] at hg'; cases hg'
    | _ => cases hg
  | _ => cases hg
def gSub : D → D → Option D := gI fun i j => i - j
def cDiv (i j : Int) : Bool := decide (j ≠ 0) && decide (j.natAbs < 1073741824)
def gDiv : D → D → Option D := gIc cDiv fun i j => i.fdiv j
def gMod : D → D → Option D := gIc (fun _ j => decide (j ≠ 0)) fun i j => i.fmod j
def cPow (i j : Int) : Bool := decide (0 ≤ j) && decide (j ≤ 1000000) && decide (i.natAbs < 18446744073709551616)
def gPow : D → D → Option D := gIc cPow fun i j => i ^ j.toNat
def gShl : D → D → Option D := gIc cPow fun i j => i * 2 ^ j.toNat
def gShr : D → D → Option D := gIc (fun _ j => decide (0 ≤ j)) fun i j => i / 2 ^ j.toNat
def gAnd : D → D → Option D := gI Builtin.bitAnd
def gLt : D → D → Option D := gIB fun i j => decide (i < j)
def gLe : D → D → Option D := gIB fun i j => decide (i ≤ j)
def gGt : D → D → Option D := gIB fun i j => decide (j < i)
def gGe : D → D → Option D := gIB fun i j => decide (j ≤ i)
section
variable {X : Cx} {c : Ct} {own : List Ms} {W : WX} {a b : Expr} {A B : SX} {pos : Pos}
theorem x_sub (ha : EX X c own .p W a A) (hb : EX X c own .p W b B) : EX X c own .o W (.BinOp a .Sub b pos) (eBin gSub A B) := x_bin op_sub gI_ok ha hb
theorem x_div (ha : EX X c own .p W a A) (hb : EX X c own .p W b B) : EX X c own .o W (.BinOp a .FloorDiv b pos) (eBin gDiv A B) :=
  x_bin op_fdivN (gIc_ok fun i j h => by unfold cDiv at h; simpa [CDivN] using h) ha hb
theorem x_mod (ha : EX X c own .p W a A) (hb : EX X c own .p W b B) : EX X c own .o W (.BinOp a .Mod b pos) (eBin gMod A B) :=
  x_bin op_modN (gIc_ok fun i j h => by simpa using h) ha hb
theorem x_pow (ha : EX X c own .p W a A) (hb : EX X c own .p W b B) : EX X c own .o W (.BinOp a .Pow b pos) (eBin gPow A B) :=
  x_bin op_pow (gIc_ok fun i j h => by unfold cPow at h; simpa [CPow, and_assoc] using h) ha hb
theorem x_shl (ha : EX X c own .p W a A) (hb : EX X c own .p W b B) : EX X c own .o W (.BinOp a .LShift b pos) (eBin gShl A B) :=
  x_bin op_shl (gIc_ok fun i j h => by unfold cPow at h; simpa [CPow, and_assoc] using h) ha hb
theorem x_shr (ha : EX X c own .p W a A) (hb : EX X c own .p W b B) : EX X c own .o W (.BinOp a .RShift b pos) (eBin gShr A B) :=
  x_bin op_shr (gIc_ok fun i j h => by simpa using h) ha hb
theorem x_band (ha : EX X c own .p W a A) (hb : EX X c own .p W b B) : EX X c own .o W (.BinOp a .BitAnd b pos) (eBin gAnd A B) := x_bin op_and gI_ok ha hb
/-! comparisons of ints -/
theorem x_lt (ha : EX X c own .p W a A) (hb : EX X c own .p W b B) : EX X c own .o W (.Compare a [.Lt] [b] pos) (eBin gLt A B) := x_cmp op_lt gIB_ok ha hb (nomark _)
theorem x_le (ha : EX X c own .p W a A) (hb : EX X c own .p W b B) : EX X c own .o W (.Compare a [.LtE] [b] pos) (eBin gLe A B) := x_cmp op_le gIB_ok ha hb (nomark _)
theorem x_gt (ha : EX X c own .p W a A) (hb : EX X c own .p W b B) : EX X c own .o W (.Compare a [.Gt] [b] pos) (eBin gGt A B) := x_cmp op_gt gIB_ok ha hb (nomark _)
theorem x_ge (ha : EX X c own .p W a A) (hb : EX X c own .p W b B) : EX X c own .o W (.Compare a [.GtE] [b] pos) (eBin gGe A B) := x_cmp op_ge gIB_ok ha hb (nomark _)
theorem b_lt (ha : EX X c own .p W a A) (hb : EX X c own .p W b B) : BX X c own W (.Compare a [.Lt] [b] pos) (bCmp gLt A B) := b_cmp op_lt gIB_ok ha hb (nomark _)
theorem b_le (ha : EX X c own .p W a A) (hb : EX X c own .p W b B) : BX X c own W (.Compare a [.LtE] [b] pos) (bCmp gLe A B) := b_cmp op_le gIB_ok ha hb (nomark _)
theorem b_gt (ha : EX X c own .p W a A) (hb : EX X c own .p W b B) : BX X c own W (.Compare a [.Gt] [b] pos) (bCmp gGt A B) := b_cmp op_gt gIB_ok ha hb (nomark _)
theorem b_ge (ha : EX X c own .p W a A) (hb : EX X c own .p W b B) : BX X c own W (.Compare a [.GtE] [b] pos) (bCmp gGe A B) := b_cmp op_ge gIB_ok ha hb (nomark _)
/-! -a -/
def gNeg : D → Option D
  | .int i => some (.int (-i))
  | _ => none
theorem gNeg_ok {m : Md} : UnG (rU fun i => .int (-i)) m c gNeg := by
  intro Z H φ x d z W σ Q w rx hg h
  cases d with
  | int i => cases hg; exact ⟨i, rx.int, h.nowI w⟩
  | _ => cases hg
theorem x_neg (ha : EX X c own .p W a A) : EX X c own .o W (.UnaryOp .USub a pos) (eUn gNeg A) := x_un un_neg gNeg_ok ha
end

/-! ## + and * -/
def gAdd : D → D → Option D
  | .int i, .int j => some (.int (i + j))
  | .lst l, .lst k => if l.length + k.length ≤ sizeLine then some (.lst (l ++ k)) else none
  | .str x, .str y => if x.length + y.length ≤ sizeLine then some (.str (x ++ y)) else none
  | .tup l, .tup k => if l.length + k.length ≤ sizeLine ∧ l.isEmpty = false then some (.tup (l ++ k)) else none
  | _, _ => none
def cMul (i j : Int) : Bool := decide (i.natAbs < 18446744073709551616) || (decide (j.natAbs < 18446744073709551616) || decide (i.natAbs.log2 + j.natAbs.log2 < 1000000))
def gMul : D → D → Option D
  | .int i, .int j => if cMul i j = true then some (.int (i * j)) else none
  | .lst l, .int k => if -9223372036854775808 ≤ k ∧ k < 9223372036854775808 ∧ l.length * k.toNat ≤ sizeLine then some (.lst (List.replicate k.toNat l).flatten) else none
  | _, _ => none
theorem ifs {α : Type} {p : Prop} [Decidable p] {a z : α} (h : (if p then some a else none) = some z) : p ∧ a = z := by
  by_cases q : p
  · rw [if_pos q] at h; exact ⟨q, Option.some.inj h⟩
  · rw [if_neg q] at h; cases h
theorem Reps.flat {K : PySem.W.Frag} {f : Addr} {Z : Hp} {vs : List V} {ds : List D} (r : Reps K f Z vs ds) : ∀ n, Reps K f Z (List.replicate n vs).flatten (List.replicate n ds).flatten
  | 0 => .nil
  | n + 1 => by rw [List.replicate_succ, List.replicate_succ, List.flatten_cons, List.flatten_cons]; exact r.app (r.flat n)
section
variable {X : Cx} {c : Ct} {own : List Ms} {W : WX} {a b : Expr} {A B : SX} {pos : Pos}
def rAddD (K : PySem.W.Frag) : R2 := fun x y H Q => (∃ i j, x = .int i ∧ y = .int j ∧ Q (.int (i + j)) H) ∨ rCat x y H Q ∨ (∃ i j, x = .str i ∧ y = .str j ∧ i.length + j.length ≤ sizeLine ∧ Q (.str (i ++ j)) H) ∨ rCatT K x y H Q
theorem op_addD : OpR X (binaryOp .Add) (rAddD X.K) := OpR.or op_add (OpR.or op_cat (OpR.or op_add_str op_catT))
theorem gAdd_ok : OpG (rAddD c.K) .o c gAdd := by
  intro Z H φ x y d e z W σ Q w rx ry hg h
  cases d with
  | int i =>
    cases e with
    | int j => cases hg; exact .inl ⟨i, j, rx.int, ry.int, h.nowI w⟩
    | _ => cases hg
  | str i =>
    cases e with
    | str j =>
      obtain ⟨hz, rfl⟩ := ifs hg
      exact .inr (.inr (.inl ⟨i, j, rx.str, ry.str, hz, h.nowS w⟩))
    | _ => cases hg
  | lst l =>
    cases e with
    | lst k =>
      obtain ⟨hz, rfl⟩ := ifs hg
      obtain ⟨a, vs, rfl, ha, q⟩ := rx.lst w
      obtain ⟨b, us, rfl, hb, q'⟩ := ry.lst w
      exact .inr (.inl ⟨a, b, vs, us, rfl, rfl, ha, hb, by rw [q.length, q'.length]; exact hz, h.newO w (.lst (q.app q'))⟩)
    | _ => cases hg
  | tup l =>
    cases e with
    | tup k =>
      obtain ⟨⟨hz, hne⟩, rfl⟩ := ifs hg
      obtain ⟨a, vs, rfl, ha, q⟩ := rx.tup
      obtain ⟨b, us, rfl, hb, q'⟩ := ry.tup
      refine .inr (.inr (.inr ⟨a, b, vs, us, rfl, rfl, w.sqT ha, w.sqT hb, ?_, by rw [q.length, q'.length]; exact hz, ?_, fun _ => h.newT w (q.app q')⟩))
      · rintro rfl
        cases q
        cases hne
      · rintro rfl
        cases q'
        rw [List.append_nil] at h
        exact h.now w (Res.of_flat (.tup ha q) rfl)
    | _ => cases hg
  | _ => cases hg
theorem x_add (hK : X.K = c.K) (ha : EX X c own .p W a A) (hb : EX X c own .p W b B) : EX X c own .o W (.BinOp a .Add b pos) (eBin gAdd A B) := x_bin op_addD (by rw [hK]; exact gAdd_ok) ha hb
def rMulD : R2 := fun x y H Q => (rI CMul (fun i j => .int (i * j)) x y H Q ∨ rI CMulW (fun i j => .int (i * j)) x y H Q) ∨ rRep x y H Q
theorem op_mulD : OpR X (binaryOp .Mult) rMulD := OpR.or (OpR.or op_mul op_mulW) op_rep
theorem cMul_ok {i j : Int} (h : cMul i j = true) : CMul i j ∨ CMulW i j := by
  unfold cMul at h
  simp only [Bool.or_eq_true, decide_eq_true_eq] at h
  rcases h with h | h | h
  · exact .inl (.inl (by omega))
  · exact .inl (.inr (by omega))
  · exact .inr h
theorem gMul_ok : OpG rMulD .o c gMul := by
  intro Z H φ x y d e z W σ Q w rx ry hg h
  cases d with
  | int i =>
    cases e with
    | int j =>
      obtain ⟨hz, rfl⟩ := ifs hg
      rcases cMul_ok hz with hm | hm
      · exact .inl (.inl ⟨i, j, rx.int, ry.int, hm, h.nowI w⟩)
      · exact .inl (.inr ⟨i, j, rx.int, ry.int, hm, h.nowI w⟩)
    | _ => cases hg
  | lst l =>
    cases e with
    | int k =>
      obtain ⟨⟨h1, h2, hz⟩, rfl⟩ := ifs hg
      obtain ⟨a, vs, rfl, ha, q⟩ := rx.lst w
      exact .inr ⟨a, k, vs, rfl, ry.int, ha, h1, h2, by rw [q.length]; exact hz, h.newO w (.lst (q.flat _))⟩
    | _ => cases hg
  | _ => cases hg
theorem x_mul (ha : EX X c own .p W a A) (hb : EX X c own .p W b B) : EX X c own .o W (.BinOp a .Mult b pos) (eBin gMul A B) := x_bin op_mulD gMul_ok ha hb
end

/-! ## equality -/
mutual
def D.py : D → PyData
  | .non => .none
  | .bl b => .bool b
  | .int i => .int i
  | .str x => .str x
  | .lst l => .list (D.pys l)
  | .tup l => .tuple (D.pys l)
  | _ => .dict []
def D.pys : List D → List PyData
  | [] => []
  | d :: ds => D.py d :: D.pys ds
end
theorem sqL_of {K : PySem.W.Frag} {H : Hp} {a : Addr} {vs : List V} (h : H a = some (.lst vs)) : SqL K H a vs := SqL.of h
mutual
theorem Rep.dp {K : PySem.W.Frag} {f : Addr} {Z : Hp} : ∀ {v : V} {d : D}, Rep K f Z v d → d.py.canLay0 = true → Dp K Z v d.py
  | _, _, .non, _ => .non
  | _, _, .bl b, _ => .bl b
  | _, _, .int b, _ => .int b
  | _, _, .str b, _ => .str b
  | _, _, .cel e q, hc => RepC.dp q e hc
  | _, _, .tup e q, hc => .tup e (Reps.dp q hc)
  | _, _, .feed, hc => (Bool.false_ne_true hc).elim
  | _, _, .fnv _, hc => (Bool.false_ne_true hc).elim
theorem RepC.dp {K : PySem.W.Frag} {f : Addr} {Z : Hp} : ∀ {o : HO} {d : D}, RepC K f Z o d → ∀ {a : Addr}, Z a = some o → d.py.canLay0 = true → Dp K Z (.ref a) d.py
  | _, _, .lst q, _, e, hc => .lst (SqL.of e) (Reps.dp q hc)
  | _, _, .dk _, _, _, hc => (Bool.false_ne_true hc).elim
  | _, _, .dt _, _, _, hc => (Bool.false_ne_true hc).elim
theorem Reps.dp {K : PySem.W.Frag} {f : Addr} {Z : Hp} : ∀ {vs : List V} {ds : List D}, Reps K f Z vs ds → PyData.canLayAll0 (D.pys ds) = true → DpAll K Z vs (D.pys ds)
  | _, _, .nil, _ => .nil
  | _, _, .cons r s, hc => by
    have hc' := (Bool.and_eq_true_iff.mp hc)
    exact .cons (Rep.dp r hc'.1) (Reps.dp s hc'.2)
end
theorem sqL_mono {K : PySem.W.Frag} {Z Z' : Hp} (h : ∀ a o, Z a = some o → Z' a = some o) {a : Addr} {vs : List V} (q : SqL K Z a vs) : SqL K Z' a vs := by
  rcases q with (q | ⟨o, q⟩) | q
  · exact .inl (.inl (h _ _ q))
  · exact .inl (.inr ⟨o, h _ _ q⟩)
  · exact .inr q
mutual
theorem Dp.mono {K : PySem.W.Frag} {Z Z' : Hp} (h : ∀ a o, Z a = some o → Z' a = some o) : ∀ {v : V} {d : PyData}, Dp K Z v d → Dp K Z' v d
  | _, _, .non => .non
  | _, _, .bl b => .bl b
  | _, _, .int b => .int b
  | _, _, .str b => .str b
  | _, _, .lst e q => .lst (sqL_mono h e) (DpAll.mono h q)
  | _, _, .tup e q => .tup (sqT_mono h e) (DpAll.mono h q)
theorem DpAll.mono {K : PySem.W.Frag} {Z Z' : Hp} (h : ∀ a o, Z a = some o → Z' a = some o) : ∀ {v : List V} {d : List PyData}, DpAll K Z v d → DpAll K Z' v d
  | _, _, .nil => .nil
  | _, _, .cons r s => .cons (Dp.mono h r) (DpAll.mono h s)
end
section
variable {X : Cx} {c : Ct} {own : List Ms} {m : Md} {W : WX} {a b : Expr} {A B : SX} {pos : Pos}
theorem Res.dp {Z H : Hp} {φ : Fd} {v : V} {d : D} (w : Wf c.K c.f Z H φ) (r : Res .p c.K c.f H Z H v d) (hc : d.py.canLay0 = true) : Dp c.K H v d.py := by
  rcases r with r | ⟨a, o, rfl, hz, hf, ha, rc⟩
  · exact Dp.mono w.sub (Rep.dp r hc)
  · cases rc with
    | lst q => exact .lst (SqL.of ha) (DpAll.mono w.sub (Reps.dp q hc))
    | dk q => cases hc
    | dt q => cases hc
def D.shp (d : D) : Bool := SeqAt.shaped d.py
def gEq : D → D → Option D := fun d e => if d.shp && e.shp then some (.bl (PyData.eqv d.py e.py)) else none
def gNe : D → D → Option D := fun d e => if d.shp && e.shp then some (.bl (!PyData.eqv d.py e.py)) else none
theorem gEq_ok : OpG (rEqD c.K) m c gEq := by
  intro Z H φ x y d e z W σ Q w rx ry hg h
  obtain ⟨hs, rfl⟩ := ifs hg
  rw [Bool.and_eq_true] at hs
  exact ⟨_, _, rx.dp w (SeqAt.canLay_of_shaped hs.1), ry.dp w (SeqAt.canLay_of_shaped hs.2), hs.1, hs.2, h.nowB w⟩
theorem gNe_ok : OpG (rNeD c.K) m c gNe := by
  intro Z H φ x y d e z W σ Q w rx ry hg h
  obtain ⟨hs, rfl⟩ := ifs hg
  rw [Bool.and_eq_true] at hs
  exact ⟨_, _, rx.dp w (SeqAt.canLay_of_shaped hs.1), ry.dp w (SeqAt.canLay_of_shaped hs.2), hs.1, hs.2, h.nowB w⟩
theorem x_eq (hK : X.K = c.K) (hu : X.A.units + 64 < cLine) (ha : EX X c own .p W a A) (hb : EX X c own .p W b B) : EX X c own .o W (.Compare a [.Eq] [b] pos) (eBin gEq A B) := x_cmp (op_eqD hu) (by rw [hK]; exact gEq_ok) ha hb (nomark _)
theorem x_ne (hK : X.K = c.K) (hu : X.A.units + 64 < cLine) (ha : EX X c own .p W a A) (hb : EX X c own .p W b B) : EX X c own .o W (.Compare a [.NotEq] [b] pos) (eBin gNe A B) := x_cmp (op_neD hu) (by rw [hK]; exact gNe_ok) ha hb (nomark _)
theorem b_eq (hK : X.K = c.K) (hu : X.A.units + 64 < cLine) (ha : EX X c own .p W a A) (hb : EX X c own .p W b B) : BX X c own W (.Compare a [.Eq] [b] pos) (bCmp gEq A B) := b_cmp (op_eqD hu) (by rw [hK]; exact gEq_ok) ha hb (nomark _)
theorem b_ne (hK : X.K = c.K) (hu : X.A.units + 64 < cLine) (ha : EX X c own .p W a A) (hb : EX X c own .p W b B) : BX X c own W (.Compare a [.NotEq] [b] pos) (bCmp gNe A B) := b_cmp (op_neD hu) (by rw [hK]; exact gNe_ok) ha hb (nomark _)

/-! ## is None -/
def D.isNon : D → Bool
  | .non => true
  | _ => false
def gIs : D → D → Option D := fun d e => if e.isNon = true then some (.bl d.isNon) else none
def gIsNot : D → D → Option D := fun d e => if e.isNon = true then some (.bl (!d.isNon)) else none
theorem isNon_ok {Z H H0 : Hp} {v : V} {d : D} (r : Res .p c.K c.f H0 Z H v d) : decide (v = .non) = d.isNon := by
  rcases r with r | ⟨a, o, rfl, hz, hf, ha, rc⟩
  · cases r with
    | cel _ q => cases q <;> rfl
    | _ => rfl
  · cases rc <;> rfl
theorem gIs_ok : OpG (fun x y H Q => y = .non ∧ Q (.bl (decide (x = .non))) H) m c gIs := by
  intro Z H φ x y d e z W σ Q w rx ry hg h
  obtain ⟨hs, rfl⟩ := ifs hg
  have := isNon_ok ry
  rw [hs] at this
  refine ⟨of_decide_eq_true this, ?_⟩
  rw [isNon_ok rx]
  exact h.nowB w
theorem gIsNot_ok : OpG (fun x y H Q => y = .non ∧ Q (.bl (!decide (x = .non))) H) m c gIsNot := by
  intro Z H φ x y d e z W σ Q w rx ry hg h
  obtain ⟨hs, rfl⟩ := ifs hg
  have := isNon_ok ry
  rw [hs] at this
  refine ⟨of_decide_eq_true this, ?_⟩
  rw [isNon_ok rx]
  exact h.nowB w
theorem x_is (ha : EX X c own .p W a A) (hb : EX X c own .p W b B) : EX X c own .o W (.Compare a [.Is] [b] pos) (eBin gIs A B) := x_cmp op_isN gIs_ok ha hb (nomark _)
theorem x_isnot (ha : EX X c own .p W a A) (hb : EX X c own .p W b B) : EX X c own .o W (.Compare a [.IsNot] [b] pos) (eBin gIsNot A B) := x_cmp op_notN gIsNot_ok ha hb (nomark _)
theorem b_is (ha : EX X c own .p W a A) (hb : EX X c own .p W b B) : BX X c own W (.Compare a [.Is] [b] pos) (bCmp gIs A B) := b_cmp op_isN gIs_ok ha hb (nomark _)
theorem b_isnot (ha : EX X c own .p W a A) (hb : EX X c own .p W b B) : BX X c own W (.Compare a [.IsNot] [b] pos) (bCmp gIsNot A B) := b_cmp op_notN gIsNot_ok ha hb (nomark _)

/-! ## in -/
def D.flatV : D → Option V
  | .non => some .non
  | .bl b => some (.bl b)
  | .int i => some (.int i)
  | .str x => some (.str x)
  | _ => none
def flatVs : List D → Option (List V)
  | [] => some []
  | d :: ds => match d.flatV, flatVs ds with
    | some v, some vs => some (v :: vs)
    | _, _ => none
theorem flatV_ok {m : Md} {Z H H0 : Hp} {x v : V} {d : D} (e : d.flatV = some v) (r : Res m c.K c.f H0 Z H x d) : x = v ∧ L2.flatV v = true := by
  cases d with
  | non => cases e; exact ⟨r.non, rfl⟩
  | bl b => cases e; exact ⟨r.bl, rfl⟩
  | int b => cases e; exact ⟨r.int, rfl⟩
  | str b => cases e; exact ⟨r.str, rfl⟩
  | _ => cases e
theorem flatVs_ok {Z : Hp} : ∀ {xs vs : List V} {ds : List D}, flatVs ds = some vs → Reps c.K c.f Z xs ds → xs = vs ∧ vs.all L2.flatV = true
  | _, _, [], e, .nil => by cases e; exact ⟨rfl, rfl⟩
  | _, _, d :: ds, e, .cons r s => by
    unfold flatVs at e
    split at e
    · rename_i v vs h1 h2
      cases e
      obtain ⟨rfl, h3⟩ := flatV_ok (m := .s) (H0 := Z) (H := Z) h1 r
      obtain ⟨rfl, h4⟩ := flatVs_ok h2 s
      exact ⟨rfl, by rw [List.all_cons, h3, h4]; rfl⟩
    · cases e
def gInT (d : D) (l : List D) : Option Bool := match d.flatV, flatVs l with
  | some v, some vs => some (inV v vs)
  | _, _ => none
theorem gInT_ok {d : D} {l : List D} {b : Bool} (h : gInT d l = some b) : ∃ v vs, d.flatV = some v ∧ flatVs l = some vs ∧ b = inV v vs := by
  unfold gInT at h
  cases e1 : d.flatV with
  | none => rw [e1] at h; cases h
  | some v =>
    cases e2 : flatVs l with
    | none => rw [e1, e2] at h; cases h
    | some vs => rw [e1, e2] at h; cases h; exact ⟨v, vs, rfl, rfl, rfl⟩
def gInB : D → D → Option Bool
  | d, .lst l => if d.shp && (D.lst l).shp then some (l.any fun z => PyData.eqv z.py d.py) else none
  | d, .tup l => gInT d l
  | .str i, .str j => some (!(Builtin.Str.occurrences j i 0 j.length 1).isEmpty)
  | _, _ => none
def gIn (neg : Bool) : D → D → Option D := fun d e => (gInB d e).map fun b => .bl (if neg then !b else b)
def rInD' (K : PySem.W.Frag) (neg : Bool) : R2 := fun x y H Q => (∃ d ds, Dp K H x d ∧ Dp K H y (.list ds) ∧ SeqAt.shaped d = true ∧ SeqAt.shaped (.list ds) = true ∧ Q (.bl (if neg then !(ds.any fun z => PyData.eqv z d) else ds.any fun z => PyData.eqv z d)) H) ∨ rIn K neg x y H Q ∨
  ∃ i j, x = .str i ∧ y = .str j ∧ Q (.bl (if neg then !(!(Builtin.Str.occurrences j i 0 j.length 1).isEmpty) else !(Builtin.Str.occurrences j i 0 j.length 1).isEmpty)) H
theorem op_inD' (hu : X.A.units + 65 < cLine) : OpR X (compareOp .In) (rInD' X.K false) := OpR.or (op_inD hu) (OpR.or op_in_seq op_in_str)
theorem op_notInD' (hu : X.A.units + 65 < cLine) : OpR X (compareOp .NotIn) (rInD' X.K true) := OpR.or (op_notInD hu) (OpR.or op_notIn_seq op_notIn_str)
theorem any_pys (e : PyData) : ∀ l : List D, (D.pys l).any (fun z => PyData.eqv z e) = l.any fun z => PyData.eqv z.py e
  | [] => rfl
  | d :: l => by rw [List.any_cons]; show ((d.py :: D.pys l).any _) = _; rw [List.any_cons, any_pys e l]
theorem gIn_ok (neg : Bool) : OpG (rInD' c.K neg) m c (gIn neg) := by
  intro Z H φ x y d e z W σ Q w rx ry hg h
  obtain ⟨b, hb, rfl⟩ := Option.map_eq_some_iff.mp hg
  cases e with
  | lst l =>
    obtain ⟨hs, rfl⟩ := ifs hb
    rw [Bool.and_eq_true] at hs
    refine .inl ⟨_, _, rx.dp w (SeqAt.canLay_of_shaped hs.1), ry.dp w (SeqAt.canLay_of_shaped hs.2), hs.1, hs.2, ?_⟩
    rw [any_pys]
    exact h.nowB w
  | tup l =>
    have hb' : gInT d l = some b := by cases d <;> exact hb
    obtain ⟨v, vs, h1, h2, rfl⟩ := gInT_ok hb'
    obtain ⟨rfl, h3⟩ := flatV_ok h1 rx
    obtain ⟨p, us, rfl, hp, q⟩ := ry.tup
    obtain ⟨rfl, h4⟩ := flatVs_ok h2 q
    exact .inr (.inl ⟨p, us, rfl, .inr (w.sqT hp), h3, h4, h.nowB w⟩)
  | str j =>
    cases d with
    | str i => cases hb; exact .inr (.inr ⟨i, j, rx.str, ry.str, h.nowB w⟩)
    | _ => cases hb
  | _ => cases d <;> cases hb
theorem x_in (hK : X.K = c.K) (hu : X.A.units + 65 < cLine) (ha : EX X c own .p W a A) (hb : EX X c own .p W b B) (hm : behindInMarks .In b = false := by rfl) : EX X c own .o W (.Compare a [.In] [b] pos) (eBin (gIn false) A B) := x_cmp (op_inD' hu) (by rw [hK]; exact gIn_ok false) ha hb hm
theorem x_notin (hK : X.K = c.K) (hu : X.A.units + 65 < cLine) (ha : EX X c own .p W a A) (hb : EX X c own .p W b B) (hm : behindInMarks .NotIn b = false := by rfl) : EX X c own .o W (.Compare a [.NotIn] [b] pos) (eBin (gIn true) A B) := x_cmp (op_notInD' hu) (by rw [hK]; exact gIn_ok true) ha hb hm
theorem b_in (hK : X.K = c.K) (hu : X.A.units + 65 < cLine) (ha : EX X c own .p W a A) (hb : EX X c own .p W b B) (hm : behindInMarks .In b = false := by rfl) : BX X c own W (.Compare a [.In] [b] pos) (bCmp (gIn false) A B) := b_cmp (op_inD' hu) (by rw [hK]; exact gIn_ok false) ha hb hm
theorem b_notin (hK : X.K = c.K) (hu : X.A.units + 65 < cLine) (ha : EX X c own .p W a A) (hb : EX X c own .p W b B) (hm : behindInMarks .NotIn b = false := by rfl) : BX X c own W (.Compare a [.NotIn] [b] pos) (bCmp (gIn true) A B) := b_cmp (op_notInD' hu) (by rw [hK]; exact gIn_ok true) ha hb hm
end
end Pf

set_option Elab.async false
set_option linter.all false
set_option maxRecDepth 100000
set_option maxHeartbeats 4000000
namespace Pf
open PySem PySem.Spec PyProof.Rows L2

/-! ## places of lists -/
theorem atI_get {α : Type} {xs : List α} {i : Int} {x : α} (h : atI xs i = some x) : ∃ j, ixN xs.length i = some j ∧ xs[j]? = some x := by
  unfold atI at h
  cases e : ixN xs.length i with
  | none => rw [e] at h; cases h
  | some j => rw [e] at h; exact ⟨j, rfl, h⟩
theorem atI_reps {K : PySem.W.Frag} {f : Addr} {Z : Hp} {vs : List V} {ds : List D} {i : Int} {x : D} (r : Reps K f Z vs ds) (h : atI ds i = some x) : ∃ y, atI vs i = some y ∧ Rep K f Z y x := by
  obtain ⟨j, h1, h2⟩ := atI_get h
  obtain ⟨y, h3, h4⟩ := r.get h2
  refine ⟨y, ?_, h4⟩
  unfold atI
  rw [r.length, h1]
  exact h3
def gIx : D → D → Option D
  | .lst l, .int i => atI l i
  | .tup l, .int i => atI l i
  | .str z, .int i => if z.length ≤ sizeLine then (atI z.cps.toList i).map (fun k => .str ⟨#[k]⟩) else none
  | _, _ => none
section
variable {X : Cx} {c : Ct} {own : List Ms} {m : Md} {W : WX} {a b : Expr} {A B : SX} {pos : Pos}
theorem gIx_ok : OpG (rIx c.K) .s c gIx := by
  intro Z H φ x y d e z W σ Q w rx ry hg h
  cases d with
  | lst l =>
    cases e with
    | int i =>
      obtain ⟨p, vs, rfl, hp, q⟩ := rx.lst w
      obtain ⟨u, hu, r⟩ := atI_reps q hg
      exact .inl ⟨p, vs, i, u, rfl, ry.int, SqL.of hp, hu, h.now w r⟩
    | _ => cases hg
  | tup l =>
    cases e with
    | int i =>
      obtain ⟨p, vs, rfl, hp, q⟩ := rx.tup
      obtain ⟨u, hu, r⟩ := atI_reps q hg
      exact .inr (.inl ⟨p, vs, i, u, rfl, ry.int, w.sqT hp, hu, h.now w r⟩)
    | _ => cases hg
  | str s =>
    cases e with
    | int i =>
      have hg' : (if s.length ≤ sizeLine then (atI s.cps.toList i).map (fun k => D.str ⟨#[k]⟩) else none) = some z := hg
      by_cases hs : s.length ≤ sizeLine
      · rw [if_pos hs] at hg'
        obtain ⟨k, hk, rfl⟩ := Option.map_eq_some_iff.mp hg'
        exact .inr (.inr ⟨s, i, k, rx.str, ry.int, hs, hk, h.nowS w⟩)
      · rw [if_neg hs] at hg'; cases hg'
    | _ => cases hg
  | _ => cases e <;> cases hg
theorem x_ix (hK : X.K = c.K) (ha : EX X c own .p W a A) (hb : EX X c own .p W b B) (hs : PlainIx b := by exact fun _ _ => rfl) : EX X c own .s W (.Subscript a b pos) (eBin gIx A B) :=
  PE.weak (pe_ix (ix_seq (X := X)) ha hb hs) fun _ _ _ h => by rw [hK]; exact bin_core gIx_ok h

/-! ## slices -/
abbrev SO := En → Fd → O (Option Int)
def PostO (c : Ct) (W : WX) (o : O (Option Int)) (σ : L2.St) (Z H : Hp) (Q : Option Int → Hp → Prop) : Prop :=
  match o with
  | .ok d φ => ∀ Z' H', Ext c.f Z H Z' H' → Wf c.K c.f Z' H' φ → Q d H'
  | .ex x l φ => ∀ cls dx Z' H', Ext c.f Z H Z' H' → Wf c.K c.f Z' H' φ → XRep c Z' H' x l cls dx → W cls dx σ H'
  | .bad => False
def tO (c : Ct) (own : List Ms) (W : WX) (A : SO) : TO := fun σ H Q => ∃ Z ρ φ, Rl c own Z ρ φ σ H ∧ PostO c W (A ρ φ) σ Z H Q
theorem PostO.shift {Z H Z1 H1 : Hp} {σ : L2.St} {o : O (Option Int)} {Q : Option Int → Hp → Prop} (e : Ext c.f Z H Z1 H1) (h : PostO c W o σ Z H Q) : PostO c W o σ Z1 H1 Q := by
  cases o with
  | ok d φ => exact fun Z' H' e' w => h Z' H' (e.trans e') w
  | ex x l φ => exact fun cls dx Z' H' e' w r => h cls dx Z' H' (e.trans e') w r
  | bad => exact h
theorem Post.bindO {m1 : Md} {Z H : Hp} {σ : L2.St} {x : O D} {k : D → Fd → O (Option Int)} {Q : Option Int → Hp → Prop} {R : VK} (h : PostO c W (x.bind k) σ Z H Q)
    (hr : ∀ d φ1 v Z1 H1, Ext c.f Z H Z1 H1 → Wf c.K c.f Z1 H1 φ1 → Res m1 c.K c.f H Z1 H1 v d → PostO c W (k d φ1) σ Z1 H1 Q → R v H1) : Post c m1 W x σ Z H R :=
  Post.bind (E := fun o Z H => PostO c W o σ Z H Q) (fun _ _ _ e h => h.shift e) (fun _ _ _ h => h) (fun h => h) h hr
theorem PostO.bindE {Z H : Hp} {σ : L2.St} {x : O (Option Int)} {k : Option Int → Fd → O D} {Q : VK} {R : Option Int → Hp → Prop} (h : Post c m W (x.bind k) σ Z H Q)
    (hr : ∀ d φ1 Z1 H1, Ext c.f Z H Z1 H1 → Wf c.K c.f Z1 H1 φ1 → Post c m W (k d φ1) σ Z1 H1 Q → R d H1) : PostO c W x σ Z H R := by
  cases x with
  | ok d φ => exact fun Z' H' e w => hr d φ Z' H' e w (Post.shift e h)
  | ex y l φ => exact h
  | bad => exact h
abbrev OX (X : Cx) (c : Ct) (own : List Ms) (W : WX) (e : Option Expr) (A : SO) : Prop := PO X e (tO c own W A)
theorem PO.weak {e : Option Expr} {t t' : TO} (h : PO X e t) (k : ∀ σ H Q, t' σ H Q → t σ H Q) : PO X e t' := ⟨fun pins s σ H Q I q => h.run pins s σ H Q I (k σ H Q q)⟩
def oNone : SO := fun _ φ => .ok none φ
def oSome (A : SX) : SO := fun ρ φ => (A ρ φ).bind fun d φ1 => match d with | .int i => .ok (some i) φ1 | _ => .bad
theorem o_none : OX X c own W none oNone := PO.weak po_none fun σ H Q ⟨Z, ρ, φ, R, h⟩ => h Z H .refl R.wf
theorem o_some (ha : EX X c own .p W a A) : OX X c own W (some a) (oSome A) := by
  refine PO.weak (po_some ha) ?_
  rintro σ H Q ⟨Z, ρ, φ, R, h⟩
  refine ⟨Z, ρ, φ, R, Post.bindO h fun d φ1 v Z1 H1 e1 w1 r1 h1 => ?_⟩
  cases d with
  | int i => exact ⟨i, r1.int, h1 Z1 H1 .refl w1⟩
  | _ => exact h1.elim
def cutD (xs : List D) (lo hi : Option Int) : List D := (xs.drop (HT.sIx xs.length 0 lo)).take (HT.sIx xs.length xs.length hi - HT.sIx xs.length 0 lo)
theorem cut_reps {K : PySem.W.Frag} {f : Addr} {Z : Hp} {vs : List V} {ds : List D} (r : Reps K f Z vs ds) (lo hi : Option Int) : Reps K f Z (cutV vs lo hi) (cutD ds lo hi) := by
  unfold cutV cutD
  rw [r.length]
  exact (r.drop _).take _
def gSl (d : D) (lo hi : Option Int) : Option D := match d with
  | .lst l => some (.lst (cutD l lo hi))
  | .str z => if z.length ≤ sizeLine then some (.str (cutS z lo hi)) else none
  | .tup l => if HT.sIx l.length 0 lo = 0 ∧ HT.sIx l.length l.length hi = l.length then none else some (.tup (cutD l lo hi))
  | _ => none
def eSl (A : SX) (L U : SO) : SX := fun ρ φ => (A ρ φ).bind fun d φ1 => (L ρ φ1).bind fun lo φ2 => (U ρ φ2).bind fun hi φ3 => ofO (gSl d lo hi) φ3
theorem x_sl (hK : X.K = c.K) {lo hi : Option Expr} {L U : SO} {p2 : Pos} (ha : EX X c own .p W a A) (hl : OX X c own W lo L) (hu : OX X c own W hi U) : EX X c own .o W (.Subscript a (.Slice lo hi none p2) pos) (eSl A L U) := by
  refine PE.weak (pe_slice (SlR.or sl_list (SlR.or sl_str sl_tup)) ha hl hu) ?_
  rintro σ H Q ⟨Z, ρ, φ, R, h⟩
  refine ⟨Z, ρ, φ, R, Post.bindE h fun d φ1 x Z1 H1 e1 w1 r1 h1 => ?_⟩
  refine ⟨Z1, ρ, φ1, R.more e1 w1, PostO.bindE h1 fun lo φ2 Z2 H2 e2 w2 h2 => ?_⟩
  refine ⟨Z2, ρ, φ2, (R.more e1 w1).more e2 w2, PostO.bindE h2 fun hi φ3 Z3 H3 e3 w3 h3 => ?_⟩
  obtain ⟨z, hz, h4⟩ := ofO_ok (E := fun o => Post c .o W o σ Z3 H3 Q) h3 fun z => z
  have r3 : Res .p c.K c.f H3 Z3 H3 x d := (r1.pmono e2).pmono e3
  cases d with
  | lst l =>
    cases hz
    obtain ⟨p, vs, rfl, hp, q⟩ := r3.lst w3
    exact .inl ⟨p, vs, rfl, SqL.of hp, h4.newO w3 (.lst (cut_reps q _ _))⟩
  | str s =>
    obtain ⟨hs, rfl⟩ := ifs hz
    exact .inr (.inl ⟨s, r3.str, hs, h4.nowS w3⟩)
  | tup l =>
    have hz' : (if HT.sIx l.length 0 lo = 0 ∧ HT.sIx l.length l.length hi = l.length then none else some (D.tup (cutD l lo hi))) = some z := hz
    by_cases hw : HT.sIx l.length 0 lo = 0 ∧ HT.sIx l.length l.length hi = l.length
    · rw [if_pos hw] at hz'; cases hz'
    · rw [if_neg hw] at hz'; cases hz'
      obtain ⟨p, vs, rfl, hp, q⟩ := r3.tup
      exact .inr (.inr ⟨p, vs, rfl, by rw [hK]; exact w3.sqT hp, by rw [q.length]; exact hw, h4.newT w3 (cut_reps q _ _)⟩)
  | _ => cases hz
def gRev : D → Option D
  | .lst l => some (.lst l.reverse)
  | _ => none
/-- xs[::-1], a list -/
theorem x_rev {k : Nat} {p1 p2 p3 : Pos} (ha : EX X c own .p W a A) : EX X c own .o W (.Subscript a (.Slice none none (some (.UnaryOp .USub (.Constant (.int 1) k p1) p2)) p3) pos) (eUn gRev A) := by
  refine PE.weak (pe_revL ha) ?_
  rintro σ H Q ⟨Z, ρ, φ, R, h⟩
  refine ⟨Z, ρ, φ, R, Post.bindE h fun d φ1 x Z1 H1 e1 w1 r1 h1 => ?_⟩
  obtain ⟨z, hz, h4⟩ := ofO_ok (E := fun o => Post c .o W o σ Z1 H1 Q) h1 fun z => z
  cases d with
  | lst l =>
    cases hz
    obtain ⟨p, vs, rfl, hp, q⟩ := (show Res .p c.K c.f H1 Z1 H1 x _ from r1).lst w1
    exact ⟨p, vs, rfl, SqL.of hp, h4.newO w1 (.lst q.rev)⟩
  | _ => cases hz

/-! ## built-in functions -/
theorem RAll.one {Z H H0 : Hp} {xs : List V} {d : D} (r : RAll .p c.K c.f H0 Z H xs [d]) : ∃ x, xs = [x] ∧ Res .p c.K c.f H0 Z H x d := by
  match xs, r with
  | [x], r => exact ⟨x, rfl, r.1⟩
  | _ :: _ :: _, r => exact r.2.elim
theorem RAll.two {Z H H0 : Hp} {xs : List V} {d e : D} (r : RAll .p c.K c.f H0 Z H xs [d, e]) : ∃ x y, xs = [x, y] ∧ Res .p c.K c.f H0 Z H x d ∧ Res .p c.K c.f H0 Z H y e := by
  match xs, r with
  | [x, y], r => exact ⟨x, y, rfl, r.1, r.2.1⟩
  | [_], r => exact r.2.elim
  | _ :: _ :: _ :: _, r => exact r.2.2.elim
def gLen : List D → Option D
  | [.lst l] => some (.int l.length)
  | [.tup l] => some (.int l.length)
  | [.str z] => if z.length ≤ sizeLine then some (.int z.length) else none
  | _ => none
theorem gLen_ok : CallG (fun xs H Q => ∃ x n, xs = [x] ∧ LenV c.K x H n ∧ Q (.int n) H) m c gLen := by
  intro Z H φ xs ds z W σ Q w r hg h
  match ds, hg, r with
  | [.lst l], hg, r =>
    cases hg
    obtain ⟨x, rfl, rr⟩ := r.one
    have r := rr
    obtain ⟨p, vs, rfl, hp, q⟩ := r.lst w
    exact ⟨_, _, rfl, .inl ⟨vs, SqL.of hp, q.length.symm⟩, h.nowI w⟩
  | [.tup l], hg, r =>
    cases hg
    obtain ⟨x, rfl, rr⟩ := r.one
    have r := rr
    obtain ⟨p, vs, rfl, hp, q⟩ := r.tup
    exact ⟨_, _, rfl, .inr ⟨vs, w.sqT hp, q.length.symm⟩, h.nowI w⟩
  | [.str s], hg, r =>
    obtain ⟨hz, rfl⟩ := ifs hg
    obtain ⟨x, rfl, rr⟩ := r.one
    have r := rr
    exact ⟨_, _, rfl, by rw [r.str]; exact ⟨hz, rfl⟩, h.nowI w⟩
def gList : List D → Option D
  | [.lst l] => some (.lst l)
  | [.tup l] => some (.lst l)
  | _ => none
theorem gList_ok : CallG (fun xs H Q => ∃ p ys, xs = [.ref p] ∧ (SqL c.K H p ys ∨ SqT c.K H p ys) ∧ ∀ l, H l = none → Q (.ref l) (upd H l (.lst ys))) .o c gList := by
  intro Z H φ xs ds z W σ Q w r hg h
  match ds, hg, r with
  | [.lst l], hg, r =>
    cases hg
    obtain ⟨x, rfl, rr⟩ := r.one
    have r := rr
    obtain ⟨p, vs, rfl, hp, q⟩ := r.lst w
    exact ⟨_, _, rfl, .inl (SqL.of hp), h.newO w (.lst q)⟩
  | [.tup l], hg, r =>
    cases hg
    obtain ⟨x, rfl, rr⟩ := r.one
    have r := rr
    obtain ⟨p, vs, rfl, hp, q⟩ := r.tup
    exact ⟨_, _, rfl, .inr (w.sqT hp), h.newO w (.lst q)⟩
def gTuple : List D → Option D
  | [.lst l] => some (.tup l)
  | [.tup l] => some (.tup l)
  | _ => none
theorem gTuple_ok : CallG (fun xs H Q => ∃ p ys, xs = [.ref p] ∧ ((SqL c.K H p ys ∧ ∀ l, H l = none → Q (.ref l) (upd H l (.tup ys))) ∨ (SqT c.K H p ys ∧ Q (.ref p) H))) m c gTuple := by
  intro Z H φ xs ds z W σ Q w r hg h
  match ds, hg, r with
  | [.lst l], hg, r =>
    cases hg
    obtain ⟨x, rfl, rr⟩ := r.one
    have r := rr
    obtain ⟨p, vs, rfl, hp, q⟩ := r.lst w
    exact ⟨_, _, rfl, .inl ⟨SqL.of hp, h.newT w q⟩⟩
  | [.tup l], hg, r =>
    cases hg
    obtain ⟨x, rfl, rr⟩ := r.one
    have r := rr
    have hf := r.flat rfl
    obtain ⟨p, vs, rfl, hp, q⟩ := r.tup
    exact ⟨_, _, rfl, .inr ⟨w.sqT hp, h.now w (Res.of_flat hf rfl)⟩⟩
def gAbs : List D → Option D
  | [.int i] => some (.int (if i < 0 then -i else i))
  | _ => none
theorem gAbs_ok : CallG (fun xs H Q => ∃ i, xs = [.int i] ∧ Q (.int (if i < 0 then -i else i)) H) m c gAbs := by
  intro Z H φ xs ds z W σ Q w r hg h
  match ds, hg, r with
  | [.int i], hg, r =>
    cases hg
    obtain ⟨x, rfl, rr⟩ := r.one
    have r := rr
    exact ⟨i, by rw [r.int], h.nowI w⟩
def b2z (b : Bool) : Int := if b then 1 else 0
def gInt : List D → Option D
  | [.int i] => some (.int i)
  | [.bl b] => some (.int (b2z b))
  | _ => none
theorem gInt_ok : CallG (fun xs H Q => (∃ i, xs = [.int i] ∧ Q (.int i) H) ∨ ∃ k, xs = [.bl k] ∧ Q (.int (if k then 1 else 0)) H) m c gInt := by
  intro Z H φ xs ds z W σ Q w r hg h
  match ds, hg, r with
  | [.int i], hg, r =>
    cases hg
    obtain ⟨x, rfl, rr⟩ := r.one
    have r := rr
    exact .inl ⟨i, by rw [r.int], h.nowI w⟩
  | [.bl b], hg, r =>
    cases hg
    obtain ⟨x, rfl, rr⟩ := r.one
    have r := rr
    exact .inr ⟨b, by rw [r.bl], h.nowI w⟩
def gMax2 : List D → Option D
  | [.int i, .int j] => some (.int (if j > i then j else i))
  | _ => none
def gMin2 : List D → Option D
  | [.int i, .int j] => some (.int (if j < i then j else i))
  | _ => none
theorem gMax2_ok : CallG (fun xs H Q => ∃ i j, xs = [.int i, .int j] ∧ Q (.int (if j > i then j else i)) H) m c gMax2 := by
  intro Z H φ xs ds z W σ Q w r hg h
  match ds, hg, r with
  | [.int i, .int j], hg, r =>
    cases hg
    obtain ⟨x, y, rfl, rr, r'⟩ := r.two
    have r := rr
    exact ⟨i, j, by rw [r.int, r'.int], h.nowI w⟩
theorem gMin2_ok : CallG (fun xs H Q => ∃ i j, xs = [.int i, .int j] ∧ Q (.int (if j < i then j else i)) H) m c gMin2 := by
  intro Z H φ xs ds z W σ Q w r hg h
  match ds, hg, r with
  | [.int i, .int j], hg, r =>
    cases hg
    obtain ⟨x, y, rfl, rr, r'⟩ := r.two
    have r := rr
    exact ⟨i, j, by rw [r.int, r'.int], h.nowI w⟩
def intsOf : List D → Option (List Int)
  | [] => some []
  | .int i :: r => match intsOf r with | some l => some (i :: l) | none => none
  | _ => none
def blsOf : List D → Option (List Bool)
  | [] => some []
  | .bl i :: r => match blsOf r with | some l => some (i :: l) | none => none
  | _ => none
theorem intsOf_inv : ∀ {ds : List D} {ns : List Int}, intsOf ds = some ns → ds = ns.map D.int
  | [], ns, h => by cases h; rfl
  | .int i :: r, ns, h => by
    cases e : intsOf r with
    | none => rw [intsOf, e] at h; cases h
    | some l => rw [intsOf, e] at h; cases h; rw [intsOf_inv e]; rfl
  | .non :: _, _, h => by cases h
  | .bl _ :: _, _, h => by cases h
  | .str _ :: _, _, h => by cases h
  | .lst _ :: _, _, h => by cases h
  | .tup _ :: _, _, h => by cases h
  | .dk _ :: _, _, h => by cases h
  | .dt _ :: _, _, h => by cases h
  | .feed :: _, _, h => by cases h
  | .exn _ _ :: _, _, h => by cases h
  | .fnv _ :: _, _, h => by cases h
theorem intsOf_map : ∀ ns : List Int, intsOf (ns.map D.int) = some ns
  | [] => rfl
  | n :: r => by rw [List.map_cons, intsOf, intsOf_map r]
theorem blsOf_inv : ∀ {ds : List D} {ns : List Bool}, blsOf ds = some ns → ds = ns.map D.bl
  | [], ns, h => by cases h; rfl
  | .bl i :: r, ns, h => by
    cases e : blsOf r with
    | none => rw [blsOf, e] at h; cases h
    | some l => rw [blsOf, e] at h; cases h; rw [blsOf_inv e]; rfl
  | .non :: _, _, h => by cases h
  | .int _ :: _, _, h => by cases h
  | .str _ :: _, _, h => by cases h
  | .lst _ :: _, _, h => by cases h
  | .tup _ :: _, _, h => by cases h
  | .dk _ :: _, _, h => by cases h
  | .dt _ :: _, _, h => by cases h
  | .feed :: _, _, h => by cases h
  | .exn _ _ :: _, _, h => by cases h
  | .fnv _ :: _, _, h => by cases h
theorem blsOf_map : ∀ ns : List Bool, blsOf (ns.map D.bl) = some ns
  | [] => rfl
  | n :: r => by rw [List.map_cons, blsOf, blsOf_map r]
theorem Reps.bls_inv {K : PySem.W.Frag} {f : Addr} {Z : Hp} : ∀ {v : List V} {ns : List Bool}, Reps K f Z v (ns.map D.bl) → v = ns.map V.bl
  | _, [], h => by cases h; rfl
  | _, n :: r, h => by
    cases h with
    | cons a b =>
      cases a with
      | bl => rw [Reps.bls_inv b]; rfl
      | cel _ q => cases q
def gSum : List D → Option D
  | [.lst l] => (intsOf l).map fun ns => .int ns.sum
  | _ => none
theorem ints_arg {Z H : Hp} {φ : Fd} {x : V} {l : List D} {ns : List Int} (w : Wf c.K c.f Z H φ) (r : Res .p c.K c.f H Z H x (.lst l)) (e : intsOf l = some ns) : ∃ p, x = .ref p ∧ SqL c.K H p (ns.map V.int) := by
  obtain ⟨p, vs, rfl, hp, q⟩ := r.lst w
  rw [intsOf_inv e] at q
  rw [q.ints_inv] at hp
  exact ⟨p, rfl, SqL.of hp⟩
theorem bls_arg {Z H : Hp} {φ : Fd} {x : V} {l : List D} {ns : List Bool} (w : Wf c.K c.f Z H φ) (r : Res .p c.K c.f H Z H x (.lst l)) (e : blsOf l = some ns) : ∃ p, x = .ref p ∧ SqL c.K H p (ns.map V.bl) := by
  obtain ⟨p, vs, rfl, hp, q⟩ := r.lst w
  rw [blsOf_inv e] at q
  rw [q.bls_inv] at hp
  exact ⟨p, rfl, SqL.of hp⟩
theorem gSum_ok : CallG (rSum c.K) m c gSum := by
  intro Z H φ xs ds z W σ Q w r hg h
  match ds, hg, r with
  | [.lst l], hg, r =>
    obtain ⟨ns, e, rfl⟩ := Option.map_eq_some_iff.mp hg
    obtain ⟨x, rfl, rr⟩ := r.one
    have r := rr
    obtain ⟨p, rfl, hp⟩ := ints_arg w r e
    exact ⟨p, ns, rfl, hp, h.nowI w⟩
def gAny : List D → Option D
  | [.lst l] => (blsOf l).map fun ns => .bl (ns.any id)
  | _ => none
def gAll : List D → Option D
  | [.lst l] => (blsOf l).map fun ns => .bl (ns.all id)
  | _ => none
theorem gAny_ok : CallG (rAny c.K) m c gAny := by
  intro Z H φ xs ds z W σ Q w r hg h
  match ds, hg, r with
  | [.lst l], hg, r =>
    obtain ⟨ns, e, rfl⟩ := Option.map_eq_some_iff.mp hg
    obtain ⟨x, rfl, rr⟩ := r.one
    have r := rr
    obtain ⟨p, rfl, hp⟩ := bls_arg w r e
    exact ⟨p, ns, rfl, hp, h.nowB w⟩
theorem gAll_ok : CallG (rAll c.K) m c gAll := by
  intro Z H φ xs ds z W σ Q w r hg h
  match ds, hg, r with
  | [.lst l], hg, r =>
    obtain ⟨ns, e, rfl⟩ := Option.map_eq_some_iff.mp hg
    obtain ⟨x, rfl, rr⟩ := r.one
    have r := rr
    obtain ⟨p, rfl, hp⟩ := bls_arg w r e
    exact ⟨p, ns, rfl, hp, h.nowB w⟩
/-! max, min of a list -/
def maxL : List Int → Option Int
  | [] => none
  | x :: r => some (r.foldl (fun a b => if b > a then b else a) x)
def minL : List Int → Option Int
  | [] => none
  | x :: r => some (r.foldl (fun a b => if b < a then b else a) x)
theorem foldmax : ∀ (r : List Int) (x : Int), (r.foldl (fun a b => if b > a then b else a) x ∈ x :: r) ∧ ∀ y ∈ x :: r, y ≤ r.foldl (fun a b => if b > a then b else a) x
  | [], x => ⟨List.mem_cons_self, fun y h => by rw [List.mem_singleton.mp h]; exact Int.le_refl _⟩
  | b :: r, x => by
    obtain ⟨h1, h2⟩ := foldmax r (if b > x then b else x)
    rw [List.foldl_cons]
    refine ⟨?_, fun y hy => ?_⟩
    · rcases List.mem_cons.mp h1 with e | e
      · rw [e]; split
        · exact List.mem_cons_of_mem _ List.mem_cons_self
        · exact List.mem_cons_self
      · exact List.mem_cons_of_mem _ (List.mem_cons_of_mem _ e)
    · have h3 := h2 _ List.mem_cons_self
      rcases List.mem_cons.mp hy with rfl | hy
      · refine Int.le_trans ?_ h3; split <;> omega
      · rcases List.mem_cons.mp hy with rfl | hy
        · refine Int.le_trans ?_ h3; split <;> omega
        · exact h2 y (List.mem_cons_of_mem _ hy)
theorem foldmin : ∀ (r : List Int) (x : Int), (r.foldl (fun a b => if b < a then b else a) x ∈ x :: r) ∧ ∀ y ∈ x :: r, r.foldl (fun a b => if b < a then b else a) x ≤ y
  | [], x => ⟨List.mem_cons_self, fun y h => by rw [List.mem_singleton.mp h]; exact Int.le_refl _⟩
  | b :: r, x => by
    obtain ⟨h1, h2⟩ := foldmin r (if b < x then b else x)
    rw [List.foldl_cons]
    refine ⟨?_, fun y hy => ?_⟩
    · rcases List.mem_cons.mp h1 with e | e
      · rw [e]; split
        · exact List.mem_cons_of_mem _ List.mem_cons_self
        · exact List.mem_cons_self
      · exact List.mem_cons_of_mem _ (List.mem_cons_of_mem _ e)
    · have h3 := h2 _ List.mem_cons_self
      rcases List.mem_cons.mp hy with rfl | hy
      · refine Int.le_trans h3 ?_; split <;> omega
      · rcases List.mem_cons.mp hy with rfl | hy
        · refine Int.le_trans h3 ?_; split <;> omega
        · exact h2 y (List.mem_cons_of_mem _ hy)
theorem maxL_iff {ns : List Int} {k : Int} (e : maxL ns = some k) {j : Int} (h1 : j ∈ ns) (h2 : ∀ y, y ∈ ns → y ≤ j) : j = k := by
  cases ns with
  | nil => cases e
  | cons x r =>
    cases e
    obtain ⟨q1, q2⟩ := foldmax r x
    exact Int.le_antisymm (q2 j h1) (h2 _ q1)
theorem minL_iff {ns : List Int} {k : Int} (e : minL ns = some k) {j : Int} (h1 : j ∈ ns) (h2 : ∀ y, y ∈ ns → j ≤ y) : j = k := by
  cases ns with
  | nil => cases e
  | cons x r =>
    cases e
    obtain ⟨q1, q2⟩ := foldmin r x
    exact Int.le_antisymm (h2 _ q1) (q2 j h1)
theorem maxL_pos {ns : List Int} {k : Int} (e : maxL ns = some k) : 0 < ns.length := by
  cases ns with
  | nil => cases e
  | cons x r => simp
theorem minL_pos {ns : List Int} {k : Int} (e : minL ns = some k) : 0 < ns.length := by
  cases ns with
  | nil => cases e
  | cons x r => simp
def gMax1 : List D → Option D
  | [.lst l] => (intsOf l).bind fun ns => (maxL ns).map D.int
  | _ => none
def gMin1 : List D → Option D
  | [.lst l] => (intsOf l).bind fun ns => (minL ns).map D.int
  | _ => none
theorem gMax1_ok : CallG (rMax c.K) m c gMax1 := by
  intro Z H φ xs ds z W σ Q w r hg h
  match ds, hg, r with
  | [.lst l], hg, r =>
    obtain ⟨ns, e, hg⟩ := Option.bind_eq_some_iff.mp hg
    obtain ⟨k, ek, rfl⟩ := Option.map_eq_some_iff.mp hg
    obtain ⟨x, rfl, rr⟩ := r.one
    have r := rr
    obtain ⟨p, rfl, hp⟩ := ints_arg w r e
    exact ⟨p, ns, rfl, hp, maxL_pos ek, fun j h1 h2 => by rw [maxL_iff ek h1 h2]; exact h.nowI w⟩
theorem gMin1_ok : CallG (rMin c.K) m c gMin1 := by
  intro Z H φ xs ds z W σ Q w r hg h
  match ds, hg, r with
  | [.lst l], hg, r =>
    obtain ⟨ns, e, hg⟩ := Option.bind_eq_some_iff.mp hg
    obtain ⟨k, ek, rfl⟩ := Option.map_eq_some_iff.mp hg
    obtain ⟨x, rfl, rr⟩ := r.one
    have r := rr
    obtain ⟨p, rfl, hp⟩ := ints_arg w r e
    exact ⟨p, ns, rfl, hp, minL_pos ek, fun j h1 h2 => by rw [minL_iff ek h1 h2]; exact h.nowI w⟩
/-! isinstance with a built-in class -/
def D.tn : D → Option String
  | .non => some "NoneType"
  | .bl _ => some "bool"
  | .int _ => some "int"
  | .str _ => some "str"
  | .lst _ => some "list"
  | .tup _ => some "tuple"
  | .dk _ => some "dict"
  | .dt _ => some "dict"
  | _ => none
def tyB (t T : String) : Bool := (t == T) || (t == "bool" && T == "int")
def gIsi (T : String) (d : D) : Option D := d.tn.map fun t => .bl (tyB t T)
/-- what isinstance says of a class's name -/
def IsiOk (T : String) : Prop := ∀ t ∈ ["NoneType", "bool", "int", "str", "list", "tuple", "dict"], kitB t T = some (tyB t T)
theorem tyX_ok {Z H : Hp} {φ : Fd} {x : V} {d : D} {t : String} (w : Wf c.K c.f Z H φ) (r : Res .p c.K c.f H Z H x d) (e : d.tn = some t) : TyX c.K H x (.type t) ∧ t ∈ ["NoneType", "bool", "int", "str", "list", "tuple", "dict"] := by
  cases d with
  | non => cases e; rw [r.non]; exact ⟨.base .non, by decide⟩
  | bl b => cases e; rw [r.bl]; exact ⟨.base (.bl _), by decide⟩
  | int b => cases e; rw [r.int]; exact ⟨.base (.int _), by decide⟩
  | str b => cases e; rw [r.str]; exact ⟨.base (.str _), by decide⟩
  | lst l => cases e; obtain ⟨p, vs, rfl, hp, q⟩ := r.lst w; exact ⟨.base (.lst hp), by decide⟩
  | tup l =>
    cases e
    obtain ⟨p, vs, rfl, hp, q⟩ := r.tup
    refine ⟨?_, by decide⟩
    rcases w.sqT hp with (h | ⟨o, h⟩) | ⟨o, its, n, h1, h2, _⟩
    · exact .base (.tup h)
    · exact .fTuple h
    · exact .kTuple h1 h2
  | dk l => cases e; obtain ⟨p, vs, rfl, hp, q⟩ := r.dk w; exact ⟨.base (.dK hp), by decide⟩
  | dt l => cases e; obtain ⟨p, vs, rfl, hp, q⟩ := r.dt w; exact ⟨.base (.dT hp), by decide⟩
  | feed => cases e
  | exn _ _ => cases e
  | fnv _ => cases e
theorem x_isi {T : String} {x2 : Str} {p p2 : Pos} (hT : IsiOk T) (hK : X.K = c.K) (ha : EX X c own .p W a A) (hm : X.mg "isinstance" = none) (hm2 : X.mg x2 = none) (hv2 : bootBuiltins x2 = some (.type T)) (hg2 : Gl X x2 := by rfl) (hn2 : x2 ≠ "__name__" := by decide) (hd2 : (x2 == ("__debug__" : Str)) = false := by decide)
    (hg : Gl X "isinstance" := by rfl)
    (he : starEach (a :: [.Name x2 p2]) X.env = (false, eval a X.env) :: starEach [.Name x2 p2] X.env := by rfl) (hpl : (backTo pos (starEach [.Name x2 p2] X.env)).any (·.1) = false := by rfl) (he2 : starEach [Expr.Name x2 p2] X.env = (false, eval (.Name x2 p2) X.env) :: starEach [] X.env := by rfl) :
    EX X c own m W (.Call (.Name "isinstance" p) [a, .Name x2 p2] [] pos) (eUn (gIsi T) A) := by
  refine PE.weak (pe_callB call_isi hg hm (by decide +kernel) (pa_cons ha (pa_cons (pe_bltn (v := .ty T) hg2 hm2 hv2 rfl hn2 hd2) pa_nil he2) he) (by decide) (by decide) he hpl) ?_
  rintro σ H Q ⟨Z, ρ, φ, R, h⟩
  refine ⟨Z, ρ, φ, R, Post.bindE h fun d φ1 v Z1 H1 e1 w1 r1 h1 => ?_⟩
  obtain ⟨z, hz, h4⟩ := ofO_ok (E := fun o => Post c m W o σ Z1 H1 Q) h1 fun z => z
  obtain ⟨t, ht, rfl⟩ := Option.map_eq_some_iff.mp hz
  obtain ⟨ty, mem⟩ := tyX_ok w1 r1 ht
  exact ⟨v, .ty T, .type t, .type T, _, rfl, .ty T, by rw [hK]; exact ty, kit_ty (hT t mem), h4.nowB w1⟩
theorem isi_int : IsiOk "int" := by unfold IsiOk; decide +kernel
theorem isi_bool : IsiOk "bool" := by unfold IsiOk; decide +kernel
theorem isi_list : IsiOk "list" := by unfold IsiOk; decide +kernel
theorem isi_tuple : IsiOk "tuple" := by unfold IsiOk; decide +kernel
theorem isi_str : IsiOk "str" := by unfold IsiOk; decide +kernel
end
end Pf

set_option Elab.async false
set_option linter.all false
set_option maxRecDepth 100000
set_option maxHeartbeats 4000000
namespace Pf
open PySem PySem.Spec PyProof.Rows L2
theorem passN {X : Cx} : Passes (L2N.CX X.prog X.w) X E0 := fun _ _ _ _ _ _ _ h => by
  obtain ⟨_, _, _, _, _, _, _, _, _, _, _, _, z⟩ := h
  exact z.elim

/-! ## calls of the text's own defs -/
/-- how arguments come in: true: to be looked at; false: frozen -/
abbrev Wm (q : Bool) : Md := if q = true then .p else .s
def RArgs (K : PySem.W.Frag) (f : Addr) (Z H : Hp) : List Bool → List V → List D → Prop
  | [], [], [] => True
  | b :: bs, v :: vs, d :: ds => Res (Wm b) K f H Z H v d ∧ RArgs K f Z H bs vs ds
  | _, _, _ => False
theorem RArgs.lens {K : PySem.W.Frag} {f : Addr} {Z H : Hp} : ∀ {bs : List Bool} {vs : List V} {ds : List D}, RArgs K f Z H bs vs ds → vs.length = bs.length ∧ ds.length = bs.length
  | [], [], [], _ => ⟨rfl, rfl⟩
  | b :: bs, v :: vs, d :: ds, h => by
    obtain ⟨h1, h2⟩ := RArgs.lens h.2
    exact ⟨by rw [List.length_cons, List.length_cons, h1], by rw [List.length_cons, List.length_cons, h2]⟩
theorem RArgs.at_ {K : PySem.W.Frag} {f : Addr} {Z H : Hp} : ∀ {bs : List Bool} {vs : List V} {ds : List D} {i : Nat} {d : D}, RArgs K f Z H bs vs ds → ds[i]? = some d → ∃ b v, bs[i]? = some b ∧ vs[i]? = some v ∧ Res (Wm b) K f H Z H v d
  | [], [], [], i, d, _, e => by simp at e
  | b :: bs, v :: vs, d :: ds, 0, x, h, e => by simp at e; subst e; exact ⟨b, v, rfl, rfl, h.1⟩
  | b :: bs, v :: vs, d :: ds, i + 1, x, h, e => by
    obtain ⟨b', v', h1, h2, h3⟩ := RArgs.at_ (i := i) (d := x) h.2 (by simpa using e)
    exact ⟨b', v', by simpa using h1, by simpa using h2, h3⟩
theorem Res.wm {K : PySem.W.Frag} {f : Addr} {H0 Z H Z' H' H1 : Hp} {b : Bool} {v : V} {d : D} (e : Ext f Z H Z' H') (r : Res (Wm b) K f H0 Z H v d) : Res (Wm b) K f H1 Z' H' v d := by
  cases b with
  | false => exact Rep.mono e.z r
  | true => exact Res.pmono r e
theorem RArgs.mono {K : PySem.W.Frag} {f : Addr} {Z H Z' H' : Hp} (e : Ext f Z H Z' H') : ∀ {bs : List Bool} {vs : List V} {ds : List D}, RArgs K f Z H bs vs ds → RArgs K f Z' H' bs vs ds
  | [], [], [], _ => trivial
  | _ :: _, _ :: _, _ :: _, h => ⟨h.1.wm e, RArgs.mono e h.2⟩
def PostM (c : Ct) (pm : List Bool) (W : WX) (o : O (List D)) (σ : L2.St) (Z H : Hp) (Q : List V → Hp → Prop) : Prop :=
  match o with
  | .ok d φ => ∀ v Z' H', Ext c.f Z H Z' H' → Wf c.K c.f Z' H' φ → RArgs c.K c.f Z' H' pm v d → Q v H'
  | .ex x l φ => ∀ cls dx Z' H', Ext c.f Z H Z' H' → Wf c.K c.f Z' H' φ → XRep c Z' H' x l cls dx → W cls dx σ H'
  | .bad => False
def tM (c : Ct) (own : List Ms) (pm : List Bool) (W : WX) (A : SA) : TA := fun σ H Q => ∃ Z ρ φ, Rl c own Z ρ φ σ H ∧ PostM c pm W (A ρ φ) σ Z H Q
abbrev AXM (X : Cx) (c : Ct) (own : List Ms) (pm : List Bool) (W : WX) (es : List Expr) (A : SA) : Prop := PA X es (tM c own pm W A)
section
variable {X : Cx} {c : Ct} {own : List Ms} {W : WX} {σ : L2.St} {Z H Z1 H1 : Hp} {pm : List Bool}
theorem PostM.shift {o : O (List D)} {Q : List V → Hp → Prop} (e : Ext c.f Z H Z1 H1) (h : PostM c pm W o σ Z H Q) : PostM c pm W o σ Z1 H1 Q := by
  cases o with
  | ok d φ => exact fun v Z' H' e2 => h v Z' H' (e.trans e2)
  | ex x l φ => exact fun cls dx Z' H' e2 => h cls dx Z' H' (e.trans e2)
  | bad => exact h
theorem Post.bindM {m1 : Md} {x : O D} {k : D → Fd → O (List D)} {Q : List V → Hp → Prop} {R : VK} (h : PostM c pm W (x.bind k) σ Z H Q)
    (hr : ∀ d φ1 v Z1 H1, Ext c.f Z H Z1 H1 → Wf c.K c.f Z1 H1 φ1 → Res m1 c.K c.f H Z1 H1 v d → PostM c pm W (k d φ1) σ Z1 H1 Q → R v H1) : Post c m1 W x σ Z H R :=
  Post.bind (E := fun o Z H => PostM c pm W o σ Z H Q) (fun _ _ _ e h => h.shift e) (fun _ _ _ h => h) (fun h => h) h hr
theorem PostM.bindM {pm1 : List Bool} {x : O (List D)} {k : List D → Fd → O (List D)} {Q R : List V → Hp → Prop} (h : PostM c pm W (x.bind k) σ Z H Q)
    (hr : ∀ d φ1 v Z1 H1, Ext c.f Z H Z1 H1 → Wf c.K c.f Z1 H1 φ1 → RArgs c.K c.f Z1 H1 pm1 v d → PostM c pm W (k d φ1) σ Z1 H1 Q → R v H1) : PostM c pm1 W x σ Z H R := by
  cases x with
  | ok d φ => exact fun v Z' H' e w r => hr d φ v Z' H' e w r (PostM.shift e h)
  | ex y l φ => exact h
  | bad => exact h
theorem PostM.bindE {m : Md} {pm1 : List Bool} {x : O (List D)} {k : List D → Fd → O D} {Q : VK} {R : List V → Hp → Prop} (h : Post c m W (x.bind k) σ Z H Q)
    (hr : ∀ d φ1 v Z1 H1, Ext c.f Z H Z1 H1 → Wf c.K c.f Z1 H1 φ1 → RArgs c.K c.f Z1 H1 pm1 v d → Post c m W (k d φ1) σ Z1 H1 Q → R v H1) : PostM c pm1 W x σ Z H R := by
  cases x with
  | ok d φ => exact fun v Z' H' e w r => hr d φ v Z' H' e w r (Post.shift e h)
  | ex y l φ => exact h
  | bad => exact h
theorem m_nil : AXM X c own [] W [] aNil := PA.weak pa_nil fun σ H Q ⟨Z, ρ, φ, R, h⟩ => h [] Z H .refl R.wf trivial
theorem m_cons {b : Bool} {e : Expr} {es : List Expr} {A : SX} {B : SA} (ha : EX X c own (Wm b) W e A) (hb : AXM X c own pm W es B) (hs : starEach (e :: es) X.env = (false, eval e X.env) :: starEach es X.env := by rfl) : AXM X c own (b :: pm) W (e :: es) (aCons A B) := by
  refine PA.weak (pa_cons ha hb hs) ?_
  rintro σ H Q ⟨Z, ρ, φ, R, h⟩
  refine ⟨Z, ρ, φ, R, Post.bindM h fun d φ1 x Z1 H1 e1 w1 r1 h1 => ?_⟩
  refine ⟨Z1, ρ, φ1, R.more e1 w1, PostM.bindM h1 fun ds φ2 xs Z2 H2 e2 w2 r2 h2 => ?_⟩
  exact h2 (x :: xs) Z2 H2 .refl w2 ⟨r1.wm e2, r2⟩
theorem m_s {e : Expr} {es : List Expr} {A : SX} {B : SA} (ha : EX X c own .s W e A) (hb : AXM X c own pm W es B) (hs : starEach (e :: es) X.env = (false, eval e X.env) :: starEach es X.env := by rfl) : AXM X c own (false :: pm) W (e :: es) (aCons A B) := m_cons (b := false) ha hb hs
theorem m_p {e : Expr} {es : List Expr} {A : SX} {B : SA} (ha : EX X c own .p W e A) (hb : AXM X c own pm W es B) (hs : starEach (e :: es) X.env = (false, eval e X.env) :: starEach es X.env := by rfl) : AXM X c own (true :: pm) W (e :: es) (aCons A B) := m_cons (b := true) ha hb hs
end
/-- a def's promise by what it does; pm: how its arguments come in -/
def spF (cls : Str → Option (Addr × List Str)) (K : PySem.W.Frag) (pm : List Bool) (m : Md) (F : Fn) : Sp := fun vs H Q E => ∃ (f : Addr) (Z : Hp) (ds : List D) (φ : Fd), Wf K f Z H φ ∧ RArgs K f Z H pm vs ds ∧
  match F ds φ with
  | .ok d φ' => ∀ v Z' H', Ext f Z H Z' H' → Wf K f Z' H' φ' → Res m K f H Z' H' v d → Q v H'
  | .ex x l φ' => ∀ cl dx Z' H', Ext f Z H Z' H' → Wf K f Z' H' φ' → XRep ⟨K, f, Z, H, cls, [], []⟩ Z' H' x l cl dx → E cl dx H'
  | .bad => False
/-- the def x of the text, callable at level k -/
structure Cal (P : Program) (w : World) (K : PySem.W.Frag) (mg : Str → Option Value) (base : Heap) (cls : Str → Option (Addr × List Str)) (x : Str) (k : Nat) (pm : List Bool) (m : Md) (F : Fn) : Prop where
  ex : ∃ (f : Addr) (fd : FuncData) (ps : List Str), mg x = some (.ref f) ∧ PySem.W.keepIn K (.ref f) = true ∧ Binds K fd ps [] ∧ FnOk P w K mg base (L2N.CX P w) k f fd ps (spF cls K pm m F)
theorem Cal.mono {P : Program} {w : World} {K : PySem.W.Frag} {mg : Str → Option Value} {base : Heap} {cls : Str → Option (Addr × List Str)} {x : Str} {k j : Nat} {pm : List Bool} {m : Md} {F : Fn} (C : Cal P w K mg base cls x k pm m F) (h : k ≤ j) : Cal P w K mg base cls x j pm m F := by
  obtain ⟨f, fd, ps, h1, h2, h3, h4⟩ := C.ex
  exact ⟨f, fd, ps, h1, h2, h3, h4.mono h⟩
def eCall (F : Fn) (A : SA) : SX := fun ρ φ => (A ρ φ).bind F
def eCall0 (F : Fn) : SX := fun _ φ => match F [] φ with
  | .ok d φ' => .ok d φ'
  | _ => .bad
section
variable {X : Cx} {c : Ct} {own : List Ms} {m : Md} {W : WX} {pos p : Pos} {x : Str} {k : Nat} {pm : List Bool} {F : Fn}
theorem x_call {e : Expr} {es : List Expr} {A : SA} (hK : X.K = c.K) (C : Cal X.prog X.w X.K X.mg X.base c.cls x k pm m F) (hr : Room k X.A) (tk : L2N.Takes X W) (ha : AXM X c own pm W (e :: es) A)
    (hg : Gl X x := by rfl) (hdb : (x == ("__debug__" : Str)) = false := by decide)
    (he : starEach (e :: es) X.env = (false, eval e X.env) :: starEach es X.env := by rfl) (hpl : (backTo pos (starEach es X.env)).any (·.1) = false := by rfl) : EX X c own m W (.Call (.Name x p) (e :: es) [] pos) (eCall F A) := by
  obtain ⟨f, fd, ps, h1, h2, h3, h4⟩ := C.ex
  refine PE.weak (pe_callS h4 hr hg h1 h2 h3 (fun σ => L2N.passAt tk σ) ha hdb he hpl) ?_
  rintro σ H Q ⟨Z, ρ, φ, R, h⟩
  refine ⟨Z, ρ, φ, R, PostM.bindE h fun ds φ1 xs Z1 H1 e1 w1 r1 h2 => ?_⟩
  refine ⟨c.f, Z1, ds, φ1, by rw [hK]; exact w1, by rw [hK]; exact r1, ?_⟩
  rw [hK]
  cases hF : F ds φ1 with
  | ok d φ2 => rw [hF] at h2; exact h2
  | ex y l φ2 => rw [hF] at h2; exact h2
  | bad => rw [hF] at h2; exact h2.elim
theorem x_call0 (hK : X.K = c.K) (C : Cal X.prog X.w X.K X.mg X.base c.cls x k [] m F) (hr : Room k X.A) (hg : Gl X x := by rfl) (hdb : (x == ("__debug__" : Str)) = false := by decide) : EX X c own m W (.Call (.Name x p) [] [] pos) (eCall0 F) := by
  obtain ⟨f, fd, ps, h1, h2, h3, h4⟩ := C.ex
  refine PE.weak (pe_call0 h4 hr hg h1 h2 h3 .nil passN hdb) ?_
  rintro σ H Q ⟨Z, ρ, φ, R, h⟩
  show spF c.cls X.K [] m F [] H Q E0
  refine ⟨c.f, Z, [], φ, by rw [hK]; exact R.wf, trivial, ?_⟩
  rw [hK]
  unfold eCall0 at h
  cases hF : F [] φ with
  | ok d φ2 => rw [hF] at h; exact h
  | ex y l φ2 => rw [hF] at h; exact h.elim
  | bad => rw [hF] at h; exact h.elim
end

/-! ## statements -/
inductive R where
  | nx (ρ : En) (φ : Fd) | rt (d : D) (φ : Fd) | bk (ρ : En) (φ : Fd) | ct (ρ : En) (φ : Fd) | ex (x : Str) (l : List D) (ρ : En) (φ : Fd) | bad
abbrev SS := En → Fd → R
/-- how a statement's own-list fares: lp: at break and continue; on: behind it. ox: which own-lists an exception may find -/
structure Ow where
  m : Md
  W : WX
  ox : List Ms → Prop
  lp : List Ms
def Sub (Z Z' : Hp) : Prop := ∀ a o, Z a = some o → Z' a = some o
theorem Sub.refl {Z : Hp} : Sub Z Z := fun _ _ h => h
theorem Sub.trans {Z Z1 Z2 : Hp} (a : Sub Z Z1) (b : Sub Z1 Z2) : Sub Z Z2 := fun x o h => b x o (a x o h)
def PostS (c : Ct) (w : Ow) (on : List Ms) (r : R) (Dn : Ends) (Z0 : Hp) : Prop :=
  match r with
  | .nx ρ φ => ∀ σ Z H, Sub Z0 Z → Rl c on Z ρ φ σ H → Dn.nx σ H
  | .rt d φ => ∀ v Z H, Ext c.f c.Z c.H Z H → Wf c.K c.f Z H φ → Res w.m c.K c.f c.H Z H v d → Dn.rt v H
  | .bk ρ φ => ∀ σ Z H, Sub Z0 Z → Rl c w.lp Z ρ φ σ H → Dn.bk σ H
  | .ct ρ φ => ∀ σ Z H, Sub Z0 Z → Rl c w.lp Z ρ φ σ H → Dn.ct σ H
  | .ex x l ρ φ => ∀ cls dx σ Z H ow, w.ox ow → Rl c ow Z ρ φ σ H → XRep c Z H x l cls dx → w.W cls dx σ H
  | .bad => False
def tS (c : Ct) (w : Ow) (own on : List Ms) (B : SS) : TS := fun Dn σ H => ∃ Z ρ φ, Rl c own Z ρ φ σ H ∧ PostS c w on (B ρ φ) Dn Z
theorem PostS.shift {c : Ct} {w : Ow} {on : List Ms} {r : R} {Dn : Ends} {Z0 Z1 : Hp} (h : PostS c w on r Dn Z0) (k : Sub Z0 Z1) : PostS c w on r Dn Z1 := by
  cases r with
  | nx ρ φ => exact fun σ Z H q => h σ Z H (k.trans q)
  | rt d φ => exact h
  | bk ρ φ => exact fun σ Z H q => h σ Z H (k.trans q)
  | ct ρ φ => exact fun σ Z H q => h σ Z H (k.trans q)
  | ex x l ρ φ => exact h
  | bad => exact h
abbrev SJ (X : Cx) (c : Ct) (w : Ow) (own on : List Ms) (st : Stmt) (B : SS) : Prop := PS X st (tS c w own on B)
abbrev SJs (X : Cx) (c : Ct) (w : Ow) (own on : List Ms) (st : List Stmt) (B : SS) : Prop := PSs X st (tS c w own on B)

/-- an outcome of an expression goes on as a statement's -/
def O.toR {α : Type} (o : O α) (ρ : En) (k : α → Fd → R) : R :=
  match o with
  | .ok a φ => k a φ
  | .ex x l φ => .ex x l ρ φ
  | .bad => .bad
section
variable {c : Ct} {w : Ow} {own on : List Ms} {m : Md} {Z H : Hp} {ρ : En} {φ : Fd} {σ : L2.St} {Dn : Ends}
theorem Post.toS {o : O D} {k : D → Fd → R} {Q : VK} (hx : w.ox own) (R0 : Rl c own Z ρ φ σ H) (h : PostS c w on (o.toR ρ k) Dn Z)
    (hk : ∀ d φ' v Z' H', Ext c.f Z H Z' H' → Wf c.K c.f Z' H' φ' → Res m c.K c.f H Z' H' v d → PostS c w on (k d φ') Dn Z' → Q v H') : Post c m w.W o σ Z H Q := by
  cases o with
  | ok d φ' => exact fun v Z' H' e w' r => hk d φ' v Z' H' e w' r (h.shift e.z)
  | ex x l φ' => exact fun cls dx Z' H' e w' r => h cls dx σ Z' H' own hx (R0.more e w') r
  | bad => exact h
theorem PostB.toS {o : O Bool} {k : Bool → Fd → R} {Q : Bool → Hp → Prop} (hx : w.ox own) (R0 : Rl c own Z ρ φ σ H) (h : PostS c w on (o.toR ρ k) Dn Z)
    (hk : ∀ d φ' Z' H', Ext c.f Z H Z' H' → Wf c.K c.f Z' H' φ' → PostS c w on (k d φ') Dn Z' → Q d H') : PostB c w.W o σ Z H Q := by
  cases o with
  | ok d φ' => exact fun Z' H' e w' => hk d φ' Z' H' e w' (h.shift e.z)
  | ex x l φ' => exact fun cls dx Z' H' e w' r => h cls dx σ Z' H' own hx (R0.more e w') r
  | bad => exact h
theorem PostA.toS {o : O (List D)} {k : List D → Fd → R} {Q : List V → Hp → Prop} (hx : w.ox own) (R0 : Rl c own Z ρ φ σ H) (h : PostS c w on (o.toR ρ k) Dn Z)
    (hk : ∀ d φ' v Z' H', Ext c.f Z H Z' H' → Wf c.K c.f Z' H' φ' → RAll m c.K c.f H Z' H' v d → PostS c w on (k d φ') Dn Z' → Q v H') : PostA c m w.W o σ Z H Q := by
  cases o with
  | ok d φ' => exact fun v Z' H' e w' r => hk d φ' v Z' H' e w' r (h.shift e.z)
  | ex x l φ' => exact fun cls dx Z' H' e w' r => h cls dx σ Z' H' own hx (R0.more e w') r
  | bad => exact h
end

/-! ### the slots -/
theorem get_set {α : Type} {l : List α} {i j : Nat} {x y : α} (h : (l.set i x)[j]? = some y) : (j = i ∧ y = x) ∨ (j ≠ i ∧ l[j]? = some y) := by
  by_cases e : j = i
  · subst e
    rw [List.getElem?_set] at h
    simp only [if_true] at h
    split at h
    · cases h; exact .inl ⟨rfl, rfl⟩
    · cases h
  · rw [List.getElem?_set_ne (Ne.symm e)] at h
    exact .inr ⟨e, h⟩
section
variable {c : Ct} {own : List Ms} {Z H Z' H' : Hp} {ρ : En} {φ φ' : Fd} {σ : L2.St} {i : Nat} {d : D} {v : V}
theorem Rl.pnSet {m : Ms} {x : Option D} {y : Option V} (R : Rl c own Z ρ φ σ H) (hm : m ≠ .p ∧ m ≠ .r := by decide) : ∀ (j : Nat) (d : D), (ρ.set i x)[j]? = some (some d) → (own.set i m)[j]? = some .p ∨ (own.set i m)[j]? = some .r → c.r0[j]? = some (some d) ∧ (σ.set i y)[j]? = c.s0[j]? := by
  intro j d h1 h2
  have hj : j ≠ i := fun e => by
    subst e
    rcases h2 with h2 | h2 <;> rcases get_set h2 with ⟨_, q⟩ | ⟨q, _⟩ <;> first | exact q rfl | exact hm.1 q.symm | exact hm.2 q.symm
  rw [List.getElem?_set_ne (Ne.symm hj)] at h1 h2 ⊢
  exact R.pn j d h1 h2
theorem Rl.pkSet {m : Ms} {x : Option D} {y : Option V} (R : Rl c own Z ρ φ σ H) (hm : m ≠ .p ∧ m ≠ .r := by decide) : ∀ (j : Nat) (d : D), (ρ.set i x)[j]? = some (some d) → (own.set i m)[j]? = some .p → ∃ v, (σ.set i y)[j]? = some (some v) ∧ Res .p c.K c.f c.H c.Z c.H v d := by
  intro j d h1 h2
  have hj : j ≠ i := fun e => by
    subst e
    rcases get_set h2 with ⟨_, q⟩ | ⟨q, _⟩
    · exact hm.1 q.symm
    · exact q rfl
  rw [List.getElem?_set_ne (Ne.symm hj)] at h1 h2 ⊢
  exact R.pk j d h1 h2
/-- a name is bound to frozen data -/
theorem Rl.setS (R : Rl c own Z ρ φ σ H) (r : Rep c.K c.f Z v d) : Rl c (own.set i .s) Z (ρ.set i (some d)) φ (σ.set i (some v)) H := by
  refine ⟨R.wf, R.ext, by simpa using R.len, fun j e h1 h2 h3 => ?_, fun j e h1 h2 => ?_, fun j k a e e' hjk h1 h2 h3 h4 h5 h6 h7 h8 => ?_, R.pnSet, R.pkSet⟩
  · rcases get_set h1 with ⟨rfl, q⟩ | ⟨hj, q⟩
    · cases q
      have hl : j < σ.length := by
        rw [R.len]
        have := (List.getElem?_eq_some_iff.mp h1).1
        simpa using this
      exact ⟨v, List.getElem?_set_self hl, r⟩
    · rw [List.getElem?_set_ne (Ne.symm hj)]
      exact R.sh j e q (by rwa [List.getElem?_set_ne (Ne.symm hj)] at h2) (by rwa [List.getElem?_set_ne (Ne.symm hj)] at h3)
  · rcases get_set h2 with ⟨rfl, q⟩ | ⟨hj, q⟩
    · cases q
    · rw [List.getElem?_set_ne (Ne.symm hj)] at h1 ⊢
      exact R.ow j e h1 q
  · rcases get_set h1 with ⟨rfl, q⟩ | ⟨hj, q⟩
    · cases q
    · rcases get_set h2 with ⟨rfl, q'⟩ | ⟨hk, q'⟩
      · cases q'
      · rw [List.getElem?_set_ne (Ne.symm hj)] at h3 h7
        rw [List.getElem?_set_ne (Ne.symm hk)] at h5 h8
        exact R.ne j k a e e' hjk q q' h3 h4 h5 h6 h7 h8
/-- a name is bound to something fresh: H0, the heap at the statement's start -/
theorem Rl.setO {Z0 H0 : Hp} {φ0 : Fd} (R0 : Rl c own Z0 ρ φ0 σ H0) (e : Ext c.f Z0 H0 Z H) (w : Wf c.K c.f Z H φ) (hi : i < own.length) (r : Res .o c.K c.f H0 Z H v d) : Rl c (own.set i .o) Z (ρ.set i (some d)) φ (σ.set i (some v)) H := by
  have R := R0.more e w
  have kH : ∀ a, c.H a ≠ none → H0 a ≠ none := R0.ext.k
  -- an own cell of another name is older than the new one
  have apart : ∀ (k : Nat) (a : Addr) (e' : D), k ≠ i → own[k]? = some .o → ρ[k]? = some (some e') → e'.mt = true → σ[k]? = some (some (.ref a)) → d.mt = true → v = .ref a → False := by
    intro k a e' hk h1 h2 h3 h4 hd hv
    obtain ⟨u, hu, ru⟩ := R0.ow k e' h2 h1
    rw [h4] at hu
    cases hu
    unfold Res at ru r
    rw [if_pos h3] at ru
    rw [if_pos hd] at r
    obtain ⟨b, o, eb, _, _, _, hb, _⟩ := ru
    obtain ⟨b', o', eb', hn, _⟩ := r
    rw [hv] at eb'
    cases eb
    cases eb'
    rw [hb] at hn
    cases hn
  refine ⟨w, R.ext, by simpa using R.len, fun j e' h1 h2 h3 => ?_, fun j e' h1 h2 => ?_, fun j k a e' e'' hjk h1 h2 h3 h4 h5 h6 h7 h8 => ?_, R.pnSet, R.pkSet⟩
  · rcases get_set h1 with ⟨rfl, q⟩ | ⟨hj, q⟩
    · exact absurd (List.getElem?_set_self hi) h2
    · rw [List.getElem?_set_ne (Ne.symm hj)]
      exact R.sh j e' q (by rwa [List.getElem?_set_ne (Ne.symm hj)] at h2) (by rwa [List.getElem?_set_ne (Ne.symm hj)] at h3)
  · rcases get_set h1 with ⟨rfl, q⟩ | ⟨hj, q⟩
    · cases q
      have hl : j < σ.length := by
        rw [R.len]
        have := (List.getElem?_eq_some_iff.mp h1).1
        simpa using this
      exact ⟨v, List.getElem?_set_self hl, r.start kH⟩
    · rw [List.getElem?_set_ne (Ne.symm hj)] at h2 ⊢
      exact R.ow j e' q h2
  · rcases get_set h3 with ⟨rfl, q⟩ | ⟨hj, q⟩
    · cases q
      have hk : k ≠ j := Ne.symm hjk
      rw [List.getElem?_set_ne (Ne.symm hk)] at h2 h5 h8
      rcases get_set h7 with ⟨_, q7⟩ | ⟨hh, _⟩
      · cases q7
        exact apart k a e'' hk h2 h5 h6 h8 h4 rfl
      · exact hh rfl
    · rw [List.getElem?_set_ne (Ne.symm hj)] at h1 h7
      rcases get_set h5 with ⟨rfl, q'⟩ | ⟨hk, q'⟩
      · cases q'
        rcases get_set h8 with ⟨_, q8⟩ | ⟨hh, _⟩
        · cases q8
          exact apart j a e' hj h1 q h4 h7 h6 rfl
        · exact hh rfl
      · rw [List.getElem?_set_ne (Ne.symm hk)] at h2 h8
        exact R.ne j k a e' e'' hjk h1 h2 q h4 q' h6 h7 h8
/-- an own cell is written -/
theorem Rl.write (R : Rl c own Z ρ φ σ H) {a : Addr} {d' : D} {o' : HO} (ho : own[i]? = some .o) (hd : ρ[i]? = some (some d)) (hm : d.mt = true) (ha : σ[i]? = some (some (.ref a))) (rc : RepC c.K c.f Z o' d') :
    Rl c own Z (ρ.set i (some d')) φ σ (upd H a o') := by
  obtain ⟨u, hu, ru⟩ := R.ow i d hd ho
  rw [ha] at hu
  cases hu
  unfold Res at ru
  rw [if_pos hm] at ru
  obtain ⟨b, o, eb, hn, hz, hf, hH, _⟩ := ru
  cases eb
  have up : ∀ b u, b ≠ a → H b = some u → upd H a o' b = some u := fun b u hb q => by rw [upd_ne hb]; exact q
  have hm' : d'.mt = true := by cases rc <;> rfl
  have zne : ∀ b u, Z b = some u → b ≠ a := fun b u q e => by rw [e, hz] at q; cases q
  refine ⟨⟨fun b u q => up b u (zne b u q) (R.wf.sub b u q), R.wf.zf, ?_, R.wf.ok⟩, ⟨R.ext.z, fun b u hb q => ?_, fun b q => ?_, R.ext.n, R.ext.d.trans (.same (upd_ne (Ne.symm hf)))⟩, by simpa using R.len, fun j e h1 h2 h3 => ?_, fun j e h1 h2 => ?_, fun j k b e e' hjk h1 h2 h3 h4 h5 h6 h7 h8 => ?_, fun j e h1 h2 => ?_, fun j e h1 h2 => ?_⟩
  · obtain ⟨s, h1, h2⟩ := R.wf.feed
    exact ⟨s, h1, up _ _ (Ne.symm hf) h2⟩
  · exact up b u (fun e => by rw [e, hn] at q; cases q) (R.ext.h b u hb q)
  · by_cases e : b = a
    · rw [e, upd_same]; simp
    · rw [upd_ne e]; exact R.ext.k b q
  · rcases get_set h1 with ⟨rfl, q⟩ | ⟨hj, q⟩
    · exact absurd ho h2
    · exact R.sh j e q h2 h3
  · rcases get_set h1 with ⟨rfl, q⟩ | ⟨hj, q⟩
    · cases q
      refine ⟨_, ha, ?_⟩
      unfold Res
      rw [if_pos hm']
      exact ⟨a, o', rfl, hn, hz, hf, upd_same, rc⟩
    · obtain ⟨u, hu, ru⟩ := R.ow j e q h2
      refine ⟨u, hu, ?_⟩
      by_cases me : e.mt = true
      · unfold Res at ru ⊢
        rw [if_pos me] at ru ⊢
        obtain ⟨b, o2, rfl, h3, h4, h5, h6, h7⟩ := ru
        exact ⟨b, o2, rfl, h3, h4, h5, up b o2 (fun z => R.ne j i b e d hj h2 ho q me hd hm hu (by rw [z]; exact ha)) h6, h7⟩
      · unfold Res at ru ⊢
        rw [if_neg me] at ru ⊢
        exact ru
  · have fx : ∀ (j : Nat) (e : D), (ρ.set i (some d'))[j]? = some (some e) → e.mt = true → ∃ e', ρ[j]? = some (some e') ∧ e'.mt = true := fun j e q me => by
      rcases get_set q with ⟨rfl, q⟩ | ⟨_, q⟩
      · exact ⟨d, hd, hm⟩
      · exact ⟨e, q, me⟩
    obtain ⟨f1, g1, k1⟩ := fx j e h3 h4
    obtain ⟨f2, g2, k2⟩ := fx k e' h5 h6
    exact R.ne j k b f1 f2 hjk h1 h2 g1 k1 g2 k2 h7 h8
  · rcases get_set h1 with ⟨rfl, q⟩ | ⟨hj, q⟩
    · rcases h2 with h2 | h2 <;> rw [ho] at h2 <;> cases h2
    · exact R.pn j e q h2
  · rcases get_set h1 with ⟨rfl, q⟩ | ⟨hj, q⟩
    · rw [ho] at h2; cases h2
    · exact R.pk j e q h2
/-- a name's cell is frozen -/
theorem Rl.frz (R : Rl c own Z ρ φ σ H) (i : Nat) (hp : own[i]? ≠ some .p) : ∃ Z', Sub Z Z' ∧ Rl c (own.set i .s) Z' ρ φ σ H := by
  -- the others, from a frozen part that grew by this cell at most
  have core : ∀ Z' : Hp, Ext c.f Z H Z' H → Wf c.K c.f Z' H φ → (∀ d, ρ[i]? = some (some d) → own[i]? = some .o → ∃ v, σ[i]? = some (some v) ∧ Rep c.K c.f Z' v d) →
      (∀ (j : Nat) (d : D) (a : Addr), j ≠ i → ρ[j]? = some (some d) → own[j]? = some .o → d.mt = true → σ[j]? = some (some (.ref a)) → Z a = none → Z' a = none) → Rl c (own.set i .s) Z' ρ φ σ H := by
    intro Z' e w hs hk
    have ext : Ext c.f c.Z c.H Z' H := ⟨fun b u q => e.z b u (R.ext.z b u q), R.ext.h, R.ext.k, fun b q1 q2 => e.n b (R.ext.k b q1) (R.ext.n b q1 q2), R.ext.d⟩
    refine ⟨w, ext, R.len, fun j d h1 h2 h3 => ?_, fun j d h1 h2 => ?_, fun j k a d d' hjk h1 h2 => ?_, fun j d h1 h2 => ?_, fun j d h1 h2 => ?_⟩
    · by_cases hj : j = i
      · subst hj
        by_cases ho : own[j]? = some .o
        · exact hs d h1 ho
        · obtain ⟨v, h3, h4⟩ := R.sh j d h1 ho hp
          exact ⟨v, h3, h4.mono e.z⟩
      · rw [List.getElem?_set_ne (Ne.symm hj)] at h2 h3
        obtain ⟨v, h3, h4⟩ := R.sh j d h1 h2 h3
        exact ⟨v, h3, h4.mono e.z⟩
    · rcases get_set h2 with ⟨rfl, q⟩ | ⟨hj, q⟩
      · cases q
      · obtain ⟨v, h3, h4⟩ := R.ow j d h1 q
        refine ⟨v, h3, ?_⟩
        by_cases me : d.mt = true
        · unfold Res at h4 ⊢
          rw [if_pos me] at h4 ⊢
          obtain ⟨a, o, rfl, g1, g2, g3, g4, g5⟩ := h4
          exact ⟨a, o, rfl, g1, hk j d a hj h1 q me h3 g2, g3, g4, g5.mono e.z⟩
        · unfold Res at h4 ⊢
          rw [if_neg me] at h4 ⊢
          exact h4.mono e.z
    · have unset : ∀ j, (own.set i Ms.s)[j]? = some Ms.o → own[j]? = some Ms.o := fun j q => by
        rcases get_set q with ⟨rfl, q'⟩ | ⟨_, q'⟩
        · cases q'
        · exact q'
      exact R.ne j k a d d' hjk (unset j h1) (unset k h2)
    · refine R.pn j d h1 ?_
      rcases h2 with h2 | h2 <;> rcases get_set h2 with ⟨_, q⟩ | ⟨_, q⟩ <;> first | exact .inl q | exact .inr q | cases q
    · refine R.pk j d h1 ?_
      rcases get_set h2 with ⟨_, q⟩ | ⟨_, q⟩
      · cases q
      · exact q
  by_cases hh : ∃ d, ρ[i]? = some (some d) ∧ own[i]? = some .o ∧ d.mt = true
  · obtain ⟨d, h1, h2, h3⟩ := hh
    obtain ⟨v, hv, r⟩ := R.ow i d h1 h2
    unfold Res at r
    rw [if_pos h3] at r
    obtain ⟨a, o, rfl, hn, hz, hf, ha, rc⟩ := r
    have up : ∀ b u, Z b = some u → upd Z a o b = some u := fun b u q => by rw [upd_ne (ne_of_none q hz)]; exact q
    refine ⟨upd Z a o, up, ?_⟩
    -- as core, but the entry's own new cells: a is no object of the entry
    have w' : Wf c.K c.f (upd Z a o) H φ := by
      refine ⟨fun b u q => ?_, ?_, ?_, R.wf.ok⟩
      · by_cases hb : b = a
        · subst hb; rw [upd_same] at q; cases q; exact ha
        · rw [upd_ne hb] at q; exact R.wf.sub b u q
      · rw [upd_ne (Ne.symm hf)]; exact R.wf.zf
      · obtain ⟨s, g1, g2⟩ := R.wf.feed
        exact ⟨s, g1.mono up, g2⟩
    have ext : Ext c.f c.Z c.H (upd Z a o) H := ⟨fun b u q => up b u (R.ext.z b u q), R.ext.h, R.ext.k, fun b q1 q2 => by
      have hb : b ≠ a := fun e => q1 (by rw [e]; exact hn)
      rw [upd_ne hb]
      exact R.ext.n b q1 q2, R.ext.d⟩
    refine ⟨w', ext, R.len, fun j e h4 h5 h6 => ?_, fun j e h4 h5 => ?_, fun j k b e e' hjk h4 h5 => ?_, fun j d h1 h2 => ?_, fun j d h1 h2 => ?_⟩
    · by_cases hj : j = i
      · subst hj
        rw [h1] at h4; cases h4
        exact ⟨_, hv, .cel upd_same (rc.mono up)⟩
      · rw [List.getElem?_set_ne (Ne.symm hj)] at h5 h6
        obtain ⟨v, g1, g2⟩ := R.sh j e h4 h5 h6
        exact ⟨v, g1, g2.mono up⟩
    · rcases get_set h5 with ⟨rfl, q⟩ | ⟨hj, q⟩
      · cases q
      · obtain ⟨v, g1, g2⟩ := R.ow j e h4 q
        refine ⟨v, g1, ?_⟩
        by_cases me : e.mt = true
        · unfold Res at g2 ⊢
          rw [if_pos me] at g2 ⊢
          obtain ⟨b, o2, rfl, k1, k2, k3, k4, k5⟩ := g2
          refine ⟨b, o2, rfl, k1, ?_, k3, k4, k5.mono up⟩
          rw [upd_ne (fun z => R.ne j i b e d hj q h2 h4 me h1 h3 g1 (by rw [z]; exact hv))]
          exact k2
        · unfold Res at g2 ⊢
          rw [if_neg me] at g2 ⊢
          exact g2.mono up
    · have unset : ∀ j, (own.set i Ms.s)[j]? = some Ms.o → own[j]? = some Ms.o := fun j q => by
        rcases get_set q with ⟨rfl, q'⟩ | ⟨_, q'⟩
        · cases q'
        · exact q'
      exact R.ne j k b e e' hjk (unset j h4) (unset k h5)
    · refine R.pn j d h1 ?_
      rcases h2 with h2 | h2 <;> rcases get_set h2 with ⟨_, q⟩ | ⟨_, q⟩ <;> first | exact .inl q | exact .inr q | cases q
    · refine R.pk j d h1 ?_
      rcases get_set h2 with ⟨_, q⟩ | ⟨_, q⟩
      · cases q
      · exact q
  · refine ⟨Z, Sub.refl, core Z ⟨fun _ _ q => q, fun _ _ _ q => q, fun _ q => q, fun _ _ q => q, .refl⟩ R.wf (fun d h1 h2 => ?_) fun _ _ _ _ _ _ _ _ q => q⟩
    obtain ⟨v, hv, r⟩ := R.ow i d h1 h2
    have hm : d.mt = false := by
      cases e : d.mt with
      | false => rfl
      | true => exact absurd ⟨d, h1, h2, e⟩ hh
    exact ⟨v, hv, r.flat hm⟩
theorem Rl.frzs (R : Rl c own Z ρ φ σ H) : ∀ is : List Nat, (∀ i ∈ is, own[i]? ≠ some .p) → ∃ Z', Sub Z Z' ∧ Rl c (is.foldr (fun i o => o.set i .s) own) Z' ρ φ σ H
  | [], _ => ⟨Z, Sub.refl, R⟩
  | i :: is, hp => by
    obtain ⟨Z1, k1, R1⟩ := R.frzs is fun j hj => hp j (List.mem_cons_of_mem _ hj)
    have hp1 : (is.foldr (fun i o => o.set i .s) own)[i]? ≠ some .p := by
      have h0 := hp i List.mem_cons_self
      clear k1 R1 hp
      induction is with
      | nil => exact h0
      | cons k is ih =>
        intro q
        rcases get_set (show ((is.foldr (fun i o => o.set i .s) own).set k .s)[i]? = some .p from q) with ⟨_, q⟩ | ⟨_, q⟩
        · cases q
        · exact ih q
    obtain ⟨Z2, k2, R2⟩ := R1.frz i hp1
    exact ⟨Z2, k1.trans k2, R2⟩
end
end Pf

set_option Elab.async false
set_option linter.all false
set_option maxRecDepth 100000
set_option maxHeartbeats 4000000
namespace Pf
open PySem PySem.Spec PyProof.Rows L2

/-! ## targets -/
abbrev Tg := D → En → Option En
/-- the slots outside is stand -/
def Agr (is : List Nat) (σ σ' : L2.St) : Prop := σ'.length = σ.length ∧ ∀ j, j ∉ is → σ'[j]? = σ[j]?
theorem Agr.refl {is : List Nat} {σ : L2.St} : Agr is σ σ := ⟨rfl, fun _ _ => rfl⟩
theorem Agr.trans {is js ks : List Nat} {σ σ1 σ2 : L2.St} (a : Agr is σ σ1) (b : Agr js σ1 σ2) (h1 : ∀ j ∈ is, j ∈ ks) (h2 : ∀ j ∈ js, j ∈ ks) : Agr ks σ σ2 :=
  ⟨b.1.trans a.1, fun j hj => (b.2 j fun z => hj (h2 j z)).trans (a.2 j fun z => hj (h1 j z))⟩
theorem wipe_in {σ : L2.St} : ∀ {vs : List Nat} {i : Nat}, i ∈ vs → i < σ.length → (wipe σ vs)[i]? = some none
  | v :: vs, i, h, hi => by
    show ((wipe σ vs).set v none)[i]? = some none
    by_cases e : i = v
    · subst e
      exact List.getElem?_set_self (by rw [wipe_length]; exact hi)
    · rw [List.getElem?_set_ne (Ne.symm e)]
      exact wipe_in ((List.mem_cons.mp h).resolve_left e) hi
theorem Agr.wipe {is vs : List Nat} {σ σ' : L2.St} (a : Agr is σ σ') (h : ∀ j ∈ is, j ∈ vs) : wipe σ' vs = wipe σ vs := by
  refine List.ext_getElem? fun i => ?_
  by_cases hi : i ∈ vs
  · by_cases hl : i < σ.length
    · rw [wipe_in hi hl, wipe_in hi (by rw [a.1]; exact hl)]
    · rw [List.getElem?_eq_none (by rw [wipe_length, a.1]; omega), List.getElem?_eq_none (by rw [wipe_length]; omega)]
  · rw [wipe_out hi, wipe_out hi]
    exact a.2 i fun z => hi (h i z)
def tT (c : Ct) (own on : List Ms) (is : List Nat) (T : Tg) : TG := fun v σ H Q => ∃ Z ρ φ d ρ', Rl c own Z ρ φ σ H ∧ Rep c.K c.f Z v d ∧ T d ρ = some ρ' ∧ ∀ σ', (∀ Z2 H2 φ2, Sub Z Z2 → Rl c own Z2 ρ φ2 σ H2 → Rl c on Z2 ρ' φ2 σ' H2) → Agr is σ σ' → Q σ' H
abbrev TJ (X : Cx) (c : Ct) (own on : List Ms) (is : List Nat) (tg : Expr) (T : Tg) : Prop := PG X tg (tT c own on is T)
abbrev Tgs := List D → En → Option En
def tTs (c : Ct) (own on : List Ms) (is : List Nat) (T : Tgs) : TGs := fun vs σ H Q => ∃ Z ρ φ ds ρ', Rl c own Z ρ φ σ H ∧ Reps c.K c.f Z vs ds ∧ T ds ρ = some ρ' ∧ ∀ σ', (∀ Z2 H2 φ2, Sub Z Z2 → Rl c own Z2 ρ φ2 σ H2 → Rl c on Z2 ρ' φ2 σ' H2) → Agr is σ σ' → Q σ' H
abbrev TJs (X : Cx) (c : Ct) (own on : List Ms) (is : List Nat) (ts : List Expr) (T : Tgs) : Prop := PGs X ts (tTs c own on is T)
theorem PG.weak {X : Cx} {tg : Expr} {t t' : TG} (h : PG X tg t) (k : ∀ v σ H Q, t' v σ H Q → t v σ H Q) : PG X tg t' := ⟨fun pins s σ H v u Q I r q => h.run pins s σ H v u Q I r (k v σ H Q q)⟩
theorem PGs.weak {X : Cx} {tg : List Expr} {t t' : TGs} (h : PGs X tg t) (k : ∀ v σ H Q, t' v σ H Q → t v σ H Q) : PGs X tg t' := ⟨fun pins s σ H v u Q I r q => h.run pins s σ H v u Q I r (k v σ H Q q)⟩
def tgN (i : Nat) : Tg := fun d ρ => some (ρ.set i (some d))
def tsNil : Tgs := fun ds ρ => match ds with | [] => some ρ | _ => none
def tsCons (T : Tg) (U : Tgs) : Tgs := fun ds ρ => match ds with | d :: r => (T d ρ).bind fun ρ1 => U r ρ1 | [] => none
def tgT (n : Nat) (T : Tgs) : Tg := fun d ρ => match d with
  | .tup ds => if ds.length = n then T ds ρ else none
  | _ => none
section
variable {X : Cx} {c : Ct} {own on o1 : List Ms} {m : Md} {W : WX} {pos : Pos}
theorem g_name (i : Nat) {x : Str} (hN : X.N.Nodup) (hi : X.N[i]? = some x := by rfl) (hx : Loc X.env.scope x := by first | exact Or.inl rfl | exact Or.inr rfl) (hf : X.fn x = true ∨ X.env.scope.names.lookup x = some .local := by first | exact .inl rfl | exact .inr rfl) :
    TJ X c own (own.set i .s) [i] (.Name x pos) (tgN i) := by
  refine PG.weak (pg_name hN hi hx hf) ?_
  rintro v σ H Q ⟨Z, ρ, φ, d, ρ', R0, r, e, q⟩
  cases e
  exact q _ (fun Z2 H2 φ2 k R' => R'.setS (r.mono k)) ⟨by simp, fun j hj => List.getElem?_set_ne (by simpa using Ne.symm (by simpa using hj : j ≠ i))⟩
theorem gs_nil : TJs X c own own [] [] tsNil := by
  refine PGs.weak pgs_nil ?_
  rintro v σ H Q ⟨Z, ρ, φ, ds, ρ', R0, r, e, q⟩
  cases r with
  | nil => cases e; exact ⟨rfl, q σ (fun _ _ _ _ R' => R') .refl⟩
  | cons _ _ => cases e
theorem gs_cons {e : Expr} {es : List Expr} {is js : List Nat} {T : Tg} {U : Tgs} (h1 : TJ X c own o1 is e T) (h2 : TJs X c o1 on js es U)
    (hs : (assignEach (e :: es) X.env).map (·.2) = assign e X.env :: (assignEach es X.env).map (·.2) := by rfl) : TJs X c own on (is ++ js) (e :: es) (tsCons T U) := by
  refine PGs.weak (pgs_cons h1 h2 hs) ?_
  rintro vs σ H Q ⟨Z, ρ, φ, ds, ρ', R0, r, e, q⟩
  cases r with
  | nil => cases e
  | @cons v d vs ds r s =>
    obtain ⟨ρ1, e1, e2⟩ := Option.bind_eq_some_iff.mp e
    exact ⟨v, vs, rfl, Z, ρ, φ, d, ρ1, R0, r, e1, fun σ1 t1 a1 => ⟨Z, ρ1, φ, ds, ρ', t1 Z H φ Sub.refl R0, s, e2, fun σ2 t2 a2 => q σ2 (fun Z2 H2 φ2 k R' => t2 Z2 H2 φ2 k (t1 Z2 H2 φ2 k R')) (a1.trans a2 (fun j h => List.mem_append_left _ h) fun j h => List.mem_append_right _ h)⟩⟩
theorem g_tup {es : List Expr} {k : Nat} {is : List Nat} {n : Nat} {T : Tgs} (hK : X.K = c.K) (hc : X.calm = true) (h : TJs X c own on is es T)
    (hn : (assignEach es X.env).length = n := by rfl) (hst : (assignEach es X.env).findIdx? (·.1) = none := by rfl) : TJ X c own on is (.Tuple es k pos) (tgT n T) := by
  refine PG.weak (pg_tup hc h hn hst) ?_
  rintro v σ H Q ⟨Z, ρ, φ, d, ρ', R0, r, e, q⟩
  cases d with
  | tup ds =>
    obtain ⟨a, vs, rfl, ha, rs⟩ := Res.tup (m := .s) (H0 := H) (H := H) r
    have e' : (if ds.length = n then T ds ρ else none) = some ρ' := e
    by_cases hl : ds.length = n
    · rw [if_pos hl] at e'
      exact ⟨a, vs, rfl, by rw [hK]; exact R0.wf.sqT ha, by rw [rs.length]; exact hl, Z, ρ, φ, ds, ρ', R0, rs, e', q⟩
    · rw [if_neg hl] at e'; cases e'
  | _ => cases e
end

/-! ## what is walked -/
/-- what stays of the state at the start: the frozen part; where q, all the heap but the feed -/
def Kp (q : Bool) (c : Ct) (Z0 H0 Z H : Hp) : Prop := (∀ a o, Z0 a = some o → Z a = some o) ∧ (q = true → ∀ a o, a ≠ c.f → H0 a = some o → H a = some o) ∧ (∀ a o, a ≠ c.f → c.H a = some o → H a = some o)
/-- the iterator J yields ds -/
def Walk (q : Bool) (c : Ct) (J : It) (ds : List D) (Z0 H0 : Hp) : Prop := ∀ (i : Nat) (Z H : Hp) (φ : Fd), Kp q c Z0 H0 Z H → Wf c.K c.f Z H φ →
  (i = ds.length → J.stop i H) ∧ ∀ d, ds[i]? = some d → J.go i H ∧ ∀ x H', J.yld i H x H' → ∃ Z', Ext c.f Z H Z' H' ∧ Wf c.K c.f Z' H' φ ∧ Rep c.K c.f Z' x d
def tI (c : Ct) (own : List Ms) (q : Bool) (W : WX) (A : SA) : TI := fun σ H R => ∃ Z ρ φ, Rl c own Z ρ φ σ H ∧ match A ρ φ with
  | .ok ds φ' => ∀ J Z' H', Ext c.f Z H Z' H' → Wf c.K c.f Z' H' φ' → Walk q c J ds Z' H' → R J H'
  | .ex x l φ' => ∀ cls dx Z' H', Ext c.f Z H Z' H' → Wf c.K c.f Z' H' φ' → XRep c Z' H' x l cls dx → W cls dx σ H'
  | .bad => False
abbrev IJ (X : Cx) (c : Ct) (own : List Ms) (q : Bool) (W : WX) (tg e : Expr) (A : SA) : Prop := PI X tg e (tI c own q W A)
section
variable {X : Cx} {c : Ct} {own : List Ms} {q : Bool} {W : WX} {pos : Pos} {tg : Expr}
/-- a list at the start of the walk, later -/
theorem lst_at {Z0 H0 : Hp} {φ0 : Fd} {v : V} {l : List D} (w0 : Wf c.K c.f Z0 H0 φ0) (r : Res (Wm q) c.K c.f H0 Z0 H0 v (.lst l)) :
    ∃ a vs, v = .ref a ∧ H0 a = some (.lst vs) ∧ Reps c.K c.f Z0 vs l ∧ ∀ Z H φ, Kp q c Z0 H0 Z H → Wf c.K c.f Z H φ → H a = some (.lst vs) := by
  cases q with
  | false =>
    have r' : Rep c.K c.f Z0 v (.lst l) := r
    cases r' with
    | cel e rc =>
      cases rc with
      | lst rs => exact ⟨_, _, rfl, w0.sub _ _ e, rs, fun Z H φ k w => w.sub _ _ (k.1 _ _ e)⟩
  | true =>
    have r' : Res .p c.K c.f H0 Z0 H0 v (.lst l) := r
    obtain ⟨a, vs, rfl, ha, rs⟩ := r'.lst w0
    refine ⟨a, vs, rfl, ha, rs, fun Z H φ k w => k.2.1 rfl a _ ?_ ha⟩
    rintro rfl
    -- the feed is no data
    rcases r' with r' | ⟨b, o, eb, _, hf, _⟩
    · cases r' with
      | cel e _ => rw [w0.zf] at e; cases e
    · cases eb; exact hf rfl
theorem walk_list {Z0 H0 : Hp} {a : Addr} {vs : List V} {l : List D} (rs : Reps c.K c.f Z0 vs l) (h : ∀ Z H φ, Kp q c Z0 H0 Z H → Wf c.K c.f Z H φ → H a = some (.lst vs)) : Walk q c (Itl c.K a) l Z0 H0 := by
  intro i Z H φ k w
  have ha := h Z H φ k w
  refine ⟨fun e => ⟨vs, SqL.of ha, by rw [rs.length, e]; exact Nat.le_refl _⟩, fun d hd => ?_⟩
  obtain ⟨y, hy, ry⟩ := rs.get hd
  refine ⟨⟨vs, y, SqL.of ha, hy⟩, fun x H' hx => ?_⟩
  obtain ⟨rfl, hx⟩ := hx
  have := hx vs (SqL.of ha)
  rw [hy] at this
  cases this
  exact ⟨Z, .refl, w, ry.mono k.1⟩
theorem walk_tup {Z0 H0 : Hp} {a : Addr} {vs : List V} {l : List D} (rs : Reps c.K c.f Z0 vs l) (ha : SqT c.K Z0 a vs) : Walk q c (Itt c.K a) l Z0 H0 := by
  intro i Z H φ k w
  have ha := w.sqT (sqT_mono k.1 ha)
  refine ⟨fun e => ⟨vs, ha, by rw [rs.length, e]; exact Nat.le_refl _⟩, fun d hd => ?_⟩
  obtain ⟨y, hy, ry⟩ := rs.get hd
  refine ⟨⟨vs, y, ha, hy⟩, fun x H' hx => ?_⟩
  obtain ⟨rfl, hx⟩ := hx
  have := hx vs ha
  rw [hy] at this
  cases this
  exact ⟨Z, .refl, w, ry.mono k.1⟩
/-- a list, a tuple, a text -/
theorem pi_seqs {l : Expr} {tl : TE} (hl : PE X l tl) : PI X tg l (fun σ H R => tl σ H fun x H1 => (∃ a, x = .ref a ∧ (∃ xs, SqL X.K H1 a xs) ∧ R (Itl X.K a) H1) ∨ (∃ a, x = .ref a ∧ (∃ xs, SqT X.K H1 a xs) ∧ R (Itt X.K a) H1) ∨ ∃ z, x = .str z ∧ R (Its z) H1) := by
  refine ⟨fun pins s σ H R I h => ?_⟩
  refine thn (hl.run pins s σ H _ I h) fun v s1 ⟨x, H1, I1, r1, q1⟩ => ?_
  rcases q1 with ⟨a, rfl, ⟨xs, hq⟩, q⟩ | ⟨a, rfl, ⟨xs, hq⟩, q⟩ | ⟨z, rfl, q⟩
  · cases r1
    obtain ⟨its, rv, p, hz⟩ := I1.list hq
    refine wpAny_pyIter_list p.isList ⟨s1.heap.objs.size, [s1.heap.objs.size], _, _, H1, rfl, I1.kept (t' := s1.toks) fun b o e => Heap.get?_push_of_some _ e, turn_list a _, ⟨_, Heap.get?_push_size _ rfl, rfl, rfl⟩, fun b hb => ?_, q⟩
    obtain rfl : b = s1.heap.objs.size := by simpa using hb
    exact I1.fpOk (Nat.le_refl _) (I1.hok.fresh (Nat.le_refl _))
  · cases r1
    obtain ⟨its, rv, p, hz⟩ := I1.tuple hq
    refine wpAny_pyIter_tuple (show s1.heap.IsTuple a its.toArray from p) ⟨s1.heap.objs.size, [s1.heap.objs.size], _, _, H1, rfl, I1.kept (t' := s1.toks) fun b o e => Heap.get?_push_of_some _ e, turn_tuple a _, ⟨_, Heap.get?_push_size _ rfl, rfl, rfl⟩, fun b hb => ?_, q⟩
    obtain rfl : b = s1.heap.objs.size := by simpa using hb
    exact I1.fpOk (Nat.le_refl _) (I1.hok.fresh (Nat.le_refl _))
  · obtain ⟨t, rfl⟩ := r1
    cases ha : z.cps.all (· < 128)
    · exact wpAny_pyIter_wide ha (pi_one (tk := s1.toks) I1 _ (turn_str _ z t "str_iterator" (.inr rfl)) ⟨_, Heap.get?_push_size _ rfl, rfl, rfl⟩ q)
    · exact wpAny_pyIter_ascii ha (pi_one (tk := s1.toks) I1 _ (turn_str _ z t "str_ascii_iterator" (.inl rfl)) ⟨_, Heap.get?_push_size _ rfl, rfl, rfl⟩ q)
theorem walk_str {Z0 H0 : Hp} {z : Str} : Walk q c (Its z) (z.cps.toList.map fun k => D.str ⟨#[k]⟩) Z0 H0 := by
  intro i Z H φ k w
  refine ⟨fun e => ?_, fun d hd => ?_⟩
  · have e' : i = z.cps.size := by simpa using e
    rw [e']
    exact Nat.le_refl _
  · rw [List.getElem?_map] at hd
    cases e : z.cps.toList[i]? with
    | none => rw [e] at hd; cases hd
    | some k =>
      rw [e] at hd
      cases hd
      rw [Array.getElem?_toList] at e
      refine ⟨(Array.getElem?_eq_some_iff.mp e).1, fun x H' hx => ?_⟩
      obtain ⟨rfl, k', hk, rfl⟩ := hx
      rw [e] at hk
      cases hk
      exact ⟨Z, .refl, w, .str _⟩
/-- the items of a value that is walked -/
def itD : D → Option (List D)
  | .lst l => some l
  | .tup l => some l
  | .str z => some (z.cps.toList.map fun k => D.str ⟨#[k]⟩)
  | _ => none
def iSeq (A : SX) : SA := fun ρ φ => (A ρ φ).bind fun d φ1 => ofO (itD d) φ1
/-! range -/
def upTo (a : Int) : Nat → List D
  | 0 => []
  | n + 1 => .int a :: upTo (a + 1) n
theorem upTo_len : ∀ (n : Nat) (a : Int), (upTo a n).length = n
  | 0, _ => rfl
  | n + 1, a => by show (upTo (a + 1) n).length + 1 = n + 1; rw [upTo_len n]
theorem upTo_get : ∀ (n : Nat) (a : Int) (i : Nat), i < n → (upTo a n)[i]? = some (.int (a + i))
  | n + 1, a, 0, _ => by show some (D.int a) = _; rw [show a + ((0 : Nat) : Int) = a by omega]
  | n + 1, a, i + 1, h => by
    show (upTo (a + 1) n)[i]? = _
    rw [upTo_get n (a + 1) i (by omega), show a + 1 + (i : Int) = a + ((i + 1 : Nat) : Int) by omega]
theorem walk_range {Z0 H0 : Hp} {a : Int} {n : Nat} : Walk q c (Itr a n) (upTo a n) Z0 H0 := by
  intro i Z H φ k w
  refine ⟨fun e => ?_, fun d hd => ?_⟩
  · rw [upTo_len] at e; rw [e]; exact Nat.le_refl _
  · have hi : i < n := by
      have := (List.getElem?_eq_some_iff.mp hd).1
      rwa [upTo_len] at this
    rw [upTo_get n a i hi] at hd
    cases hd
    exact ⟨hi, fun x H' hx => by obtain ⟨rfl, rfl⟩ := hx; exact ⟨Z, .refl, w, .int _⟩⟩
def small62 (j : Int) : Bool := decide (-4611686018427387904 ≤ j) && decide (j < 4611686018427387904)
theorem small62_ok {j : Int} (h : small62 j = true) : -(2 ^ 62) ≤ j ∧ j < 2 ^ 62 := by
  unfold small62 at h
  simp only [Bool.and_eq_true, decide_eq_true_eq] at h
  omega
def rg1 : List D → Option (List D)
  | [.int j] => if small62 j then some (upTo 0 j.toNat) else none
  | _ => none
def rg2 : List D → Option (List D)
  | [.int i, .int j] => if small62 i && small62 j then some (upTo i (j - i).toNat) else none
  | _ => none
theorem rg1_inv {ds l : List D} (h : rg1 ds = some l) : ∃ j, ds = [.int j] ∧ small62 j = true ∧ l = upTo 0 j.toNat := by
  unfold rg1 at h
  split at h
  · obtain ⟨h1, h2⟩ := ifs h
    exact ⟨_, rfl, h1, h2.symm⟩
  · cases h
theorem rg2_inv {ds l : List D} (h : rg2 ds = some l) : ∃ i j, ds = [.int i, .int j] ∧ small62 i = true ∧ small62 j = true ∧ l = upTo i (j - i).toNat := by
  unfold rg2 at h
  split at h
  · obtain ⟨h1, h2⟩ := ifs h
    rw [Bool.and_eq_true] at h1
    exact ⟨_, _, rfl, h1.1, h1.2, h2.symm⟩
  · cases h
def iRg1 (A : SA) : SA := fun ρ φ => (A ρ φ).bind fun ds φ1 => ofO (rg1 ds) φ1
def iRg2 (A : SA) : SA := fun ρ φ => (A ρ φ).bind fun ds φ1 => ofO (rg2 ds) φ1
/-- the wish of a walk -/
def PostI (c : Ct) (q : Bool) (W : WX) (o : O (List D)) (σ : L2.St) (Z H : Hp) (R0 : It → Hp → Prop) : Prop :=
  match o with
  | .ok ds φ' => ∀ J Z' H', Ext c.f Z H Z' H' → Wf c.K c.f Z' H' φ' → Walk q c J ds Z' H' → R0 J H'
  | .ex x l φ' => ∀ cls dx Z' H', Ext c.f Z H Z' H' → Wf c.K c.f Z' H' φ' → XRep c Z' H' x l cls dx → W cls dx σ H'
  | .bad => False
theorem PostI.shift {Z H Z1 H1 : Hp} {σ : L2.St} {o : O (List D)} {R0 : It → Hp → Prop} (e : Ext c.f Z H Z1 H1) (h : PostI c q W o σ Z H R0) : PostI c q W o σ Z1 H1 R0 := by
  cases o with
  | ok d φ => exact fun J Z' H' e' w => h J Z' H' (e.trans e') w
  | ex x l φ => exact fun cls dx Z' H' e' w r => h cls dx Z' H' (e.trans e') w r
  | bad => exact h
theorem Post.bindI {m : Md} {Z H : Hp} {σ : L2.St} {x : O D} {k : D → Fd → O (List D)} {R0 : It → Hp → Prop} {Q : VK} (h : PostI c q W (x.bind k) σ Z H R0)
    (hr : ∀ d φ1 v Z1 H1, Ext c.f Z H Z1 H1 → Wf c.K c.f Z1 H1 φ1 → Res m c.K c.f H Z1 H1 v d → PostI c q W (k d φ1) σ Z1 H1 R0 → Q v H1) : Post c m W x σ Z H Q :=
  Post.bind (E := fun o Z H => PostI c q W o σ Z H R0) (fun _ _ _ e h => h.shift e) (fun _ _ _ h => h) (fun h => h) h hr
theorem PostA.bindI {m : Md} {Z H : Hp} {σ : L2.St} {x : O (List D)} {k : List D → Fd → O (List D)} {R0 : It → Hp → Prop} {Q : List V → Hp → Prop} (h : PostI c q W (x.bind k) σ Z H R0)
    (hr : ∀ d φ1 v Z1 H1, Ext c.f Z H Z1 H1 → Wf c.K c.f Z1 H1 φ1 → RAll m c.K c.f H Z1 H1 v d → PostI c q W (k d φ1) σ Z1 H1 R0 → Q v H1) : PostA c m W x σ Z H Q :=
  PostA.bind (E := fun o Z H => PostI c q W o σ Z H R0) (fun _ _ _ e h => h.shift e) (fun _ _ _ h => h) (fun h => h) h hr
theorem i_seq (hK : X.K = c.K) {a : Expr} {A : SX} (ha : EX X c own (Wm q) W a A) : IJ X c own q W tg a (iSeq A) := by
  refine PI.weak (pi_seqs ha) ?_
  rintro σ H R0 ⟨Z, ρ, φ, R, h⟩
  refine ⟨Z, ρ, φ, R, Post.bindI (R0 := R0) h fun d φ1 v Z1 H1 e1 w1 r1 h1 => ?_⟩
  have r1' : Res (Wm q) c.K c.f H1 Z1 H1 v d := r1.any (by cases q <;> decide)
  obtain ⟨l0, hl, h2⟩ := ofO_ok (E := fun o => PostI c q W o σ Z1 H1 R0) h1 fun z => z
  cases d with
  | lst l =>
    cases hl
    obtain ⟨a, vs, rfl, ha, rs, hk⟩ := lst_at w1 r1'
    exact .inl ⟨a, rfl, ⟨vs, SqL.of ha⟩, by rw [hK]; exact h2 _ Z1 H1 .refl w1 (walk_list rs hk)⟩
  | tup l =>
    cases hl
    obtain ⟨a, vs, rfl, ha, rs⟩ := r1'.tup
    exact .inr (.inl ⟨a, rfl, ⟨vs, by rw [hK]; exact w1.sqT ha⟩, by rw [hK]; exact h2 _ Z1 H1 .refl w1 (walk_tup rs ha)⟩)
  | str z =>
    cases hl
    obtain rfl := r1'.str
    exact .inr (.inr ⟨z, rfl, h2 _ Z1 H1 .refl w1 walk_str⟩)
  | _ => cases hl
/-- a loop over what stood at the start, to be looked at -/
theorem i_seqP (i : Nat) {x : Str} {p : Pos} (hK : X.K = c.K) (ho : own[i]? = some .p := by rfl) (hN : X.N[i]? = some x := by rfl) (hv : Vis X.env.scope x := by first | exact Or.inl rfl | exact Or.inr (Or.inl rfl) | exact Or.inr (Or.inr rfl)) (hd : (x == ("__debug__" : Str)) = false := by decide)
    (hcd : (x == ("__classdict__" : Str)) = false := by decide) : IJ X c own false W tg (.Name x p) (iSeq (eVar i)) := by
  refine PI.weak (pi_seqs (pe_var hN hv hd hcd)) ?_
  rintro σ H R0 ⟨Z, ρ, φ, R, h⟩
  have h' : PostI c false W (iSeq (eVar i) ρ φ) σ Z H R0 := h
  unfold iSeq at h'
  cases hE : eVar i ρ φ with
  | bad => rw [hE] at h'; exact h'.elim
  | ex y l φ' => unfold eVar at hE; split at hE <;> cases hE
  | ok d φ1 =>
    have hd' : ρ[i]? = some (some d) ∧ φ1 = φ := by
      unfold eVar at hE
      split at hE
      · rename_i d' e'; cases hE; exact ⟨e', rfl⟩
      · cases hE
    obtain ⟨hr, rfl⟩ := hd'
    rw [hE] at h'
    obtain ⟨l0, hl, h2⟩ := ofO_ok (E := fun o => PostI c false W o σ Z H R0) (show PostI c false W (ofO (itD d) φ1) σ Z H R0 from h') fun z => z
    obtain ⟨v, hv, r⟩ := R.pk i d hr ho
    refine ⟨v, hv, ?_⟩
    have r1 : Res .p c.K c.f H Z H v d := (show Res .p c.K c.f H c.Z c.H v d from r).pmono R.ext
    cases d with
    | lst l =>
      cases hl
      rcases r with r | ⟨a, o, rfl, hz, hf, ha, rc⟩
      · cases r with
        | cel e rc =>
          cases rc with
          | lst rs => exact .inl ⟨_, rfl, ⟨_, SqL.of (R.wf.sub _ _ (R.ext.z _ _ e))⟩, by rw [hK]; exact h2 _ Z H .refl R.wf (walk_list (rs.mono R.ext.z) fun Z' H' φ' k w => w.sub _ _ (k.1 _ _ (R.ext.z _ _ e)))⟩
      · cases rc with
        | lst rs => exact .inl ⟨_, rfl, ⟨_, SqL.of (R.ext.h _ _ hf ha)⟩, by rw [hK]; exact h2 _ Z H .refl R.wf (walk_list (rs.mono R.ext.z) fun Z' H' φ' k w => k.2.2 _ _ hf ha)⟩
    | tup l =>
      cases hl
      obtain ⟨a, vs, rfl, ha, rs⟩ := r1.tup
      exact .inr (.inl ⟨a, rfl, ⟨vs, by rw [hK]; exact R.wf.sqT ha⟩, by rw [hK]; exact h2 _ Z H .refl R.wf (walk_tup rs ha)⟩)
    | str z =>
      cases hl
      obtain rfl := r1.str
      exact .inr (.inr ⟨z, rfl, h2 _ Z H .refl R.wf walk_str⟩)
    | _ => cases hl
section
variable {a b : Expr} {A : SA} {p : Pos}
theorem i_range1 (hm : X.mg "range" = none) (ha : AX X c own .p W [a] A) (hg : Gl X "range" := by rfl) (hs : starEach [a] X.env = [(false, eval a X.env)] := by rfl) : IJ X c own q W tg (.Call (.Name "range" p) [a] [] pos) (iRg1 A) := by
  refine PI.weak (pi_range1 hg hm ha hs) ?_
  rintro σ H R0 ⟨Z, ρ, φ, R, h⟩
  refine ⟨Z, ρ, φ, R, PostA.bindI (R0 := R0) h fun ds φ1 xs Z1 H1 e1 w1 r1 h1 => ?_⟩
  obtain ⟨l0, hl, h2⟩ := ofO_ok (E := fun o => PostI c q W o σ Z1 H1 R0) h1 fun z => z
  obtain ⟨j, rfl, hj, rfl⟩ := rg1_inv hl
  obtain ⟨x, rfl, r2⟩ := r1.one
  obtain ⟨g1, g2⟩ := small62_ok hj
  exact ⟨j, by rw [r2.int], g1, g2, h2 _ Z1 H1 .refl w1 walk_range⟩
theorem i_range2 (hm : X.mg "range" = none) (ha : AX X c own .p W [a, b] A) (hg : Gl X "range" := by rfl) (hs : starEach [a, b] X.env = [(false, eval a X.env), (false, eval b X.env)] := by rfl) (hs2 : starEach [b] X.env = [(false, eval b X.env)] := by rfl) :
    IJ X c own q W tg (.Call (.Name "range" p) [a, b] [] pos) (iRg2 A) := by
  refine PI.weak (pi_range2 hg hm ha hs hs2) ?_
  rintro σ H R0 ⟨Z, ρ, φ, R, h⟩
  refine ⟨Z, ρ, φ, R, PostA.bindI (R0 := R0) h fun ds φ1 xs Z1 H1 e1 w1 r1 h1 => ?_⟩
  obtain ⟨l0, hl, h2⟩ := ofO_ok (E := fun o => PostI c q W o σ Z1 H1 R0) h1 fun z => z
  obtain ⟨i, j, rfl, hi, hj, rfl⟩ := rg2_inv hl
  obtain ⟨x, y, rfl, r2, r3⟩ := r1.two
  obtain ⟨g1, g2⟩ := small62_ok hi
  obtain ⟨g3, g4⟩ := small62_ok hj
  exact ⟨i, j, by rw [r2.int, r3.int], ⟨g1, g2, g3, g4⟩, h2 _ Z1 H1 .refl w1 walk_range⟩
/-! enumerate, zip -/
def enumD (i : Nat) : List D → List D
  | [] => []
  | d :: r => .tup [.int (i : Nat), d] :: enumD (i + 1) r
theorem enumD_len : ∀ (l : List D) (i : Nat), (enumD i l).length = l.length
  | [], _ => rfl
  | _ :: r, i => by show (enumD (i + 1) r).length + 1 = r.length + 1; rw [enumD_len r]
theorem enumD_get : ∀ (l : List D) (i k : Nat) (e : D), (enumD i l)[k]? = some e → ∃ d, l[k]? = some d ∧ e = .tup [.int ((i + k : Nat) : Int), d]
  | [], _, _, _, h => by cases h
  | d :: r, i, 0, e, h => by
    have h' : some (D.tup [.int (i : Nat), d]) = some e := h
    cases h'
    exact ⟨d, rfl, rfl⟩
  | d :: r, i, k + 1, e, h => by
    obtain ⟨d', h1, h2⟩ := enumD_get r (i + 1) k e h
    exact ⟨d', h1, by rw [h2, show i + 1 + k = i + (k + 1) by omega]⟩
/-- a new pair at p -/
theorem pair_new {Z H : Hp} {φ : Fd} {p : Addr} {vs : List V} {ds : List D} (w : Wf c.K c.f Z H φ) (r : Reps c.K c.f Z vs ds) (hp : H p = none) :
    ∃ Z', Ext c.f Z H Z' (upd H p (.tup vs)) ∧ Wf c.K c.f Z' (upd H p (.tup vs)) φ ∧ Rep c.K c.f Z' (.ref p) (.tup ds) := by
  have h := Post.newT (c := c) (m := .s) (W := fun _ _ _ _ => False) (σ := []) (Q := fun v H' => v = .ref p → H' = upd H p (.tup vs) → ∃ Z', Ext c.f Z H Z' H' ∧ Wf c.K c.f Z' H' φ ∧ Rep c.K c.f Z' v (.tup ds)) w r
    (fun v Z' H' e w' r' _ _ => ⟨Z', e, w', r'⟩) p hp rfl rfl
  exact h
theorem walk_enum {Z0 H0 : Hp} {a : Addr} {vs : List V} {l : List D} (rs : Reps c.K c.f Z0 vs l) (h : ∀ Z H φ, Kp q c Z0 H0 Z H → Wf c.K c.f Z H φ → H a = some (.lst vs)) : Walk q c (Ite c.K a) (enumD 0 l) Z0 H0 := by
  intro i Z H φ k w
  have ha := h Z H φ k w
  refine ⟨fun e => ⟨vs, SqL.of ha, by rw [rs.length, e, enumD_len]; exact Nat.le_refl _⟩, fun d hd => ?_⟩
  obtain ⟨d', h1, rfl⟩ := enumD_get l 0 i d hd
  obtain ⟨y, hy, ry⟩ := rs.get h1
  refine ⟨⟨vs, y, SqL.of ha, hy⟩, fun x H' hx => ?_⟩
  obtain ⟨T, u, rfl, hT, rfl, hu⟩ := hx
  have := hu vs (SqL.of ha)
  rw [hy] at this
  cases this
  refine pair_new w (.cons ?_ (.cons (ry.mono k.1) .nil)) hT
  rw [Nat.zero_add]
  exact .int _
def zipD : List D → List D → List D
  | d :: r, e :: s => .tup [d, e] :: zipD r s
  | _, _ => []
theorem zipD_len : ∀ (l k : List D), (zipD l k).length = min l.length k.length
  | [], _ => by simp [zipD]
  | _ :: _, [] => by simp [zipD]
  | _ :: r, _ :: s => by show (zipD r s).length + 1 = min (r.length + 1) (s.length + 1); rw [zipD_len r s]; omega
theorem zipD_get : ∀ (l k : List D) (i : Nat) (z : D), (zipD l k)[i]? = some z → ∃ d e, l[i]? = some d ∧ k[i]? = some e ∧ z = .tup [d, e]
  | [], _, _, _, h => by cases h
  | _ :: _, [], _, _, h => by cases h
  | d :: r, e :: s, 0, z, h => by
    have h' : some (D.tup [d, e]) = some z := h
    cases h'
    exact ⟨d, e, rfl, rfl, rfl⟩
  | d :: r, e :: s, i + 1, z, h => zipD_get r s i z h
theorem walk_zip {Z0 H0 : Hp} {a b : Addr} {vs us : List V} {l k : List D} (rs : Reps c.K c.f Z0 vs l) (h : ∀ Z H φ, Kp q c Z0 H0 Z H → Wf c.K c.f Z H φ → H a = some (.lst vs))
    (rs' : Reps c.K c.f Z0 us k) (h' : ∀ Z H φ, Kp q c Z0 H0 Z H → Wf c.K c.f Z H φ → H b = some (.lst us)) : Walk q c (Itz c.K a b) (zipD l k) Z0 H0 := by
  intro i Z H φ kp w
  have ha := h Z H φ kp w
  have hb := h' Z H φ kp w
  refine ⟨fun e => ⟨vs, us, SqL.of ha, SqL.of hb, by rw [rs.length, rs'.length, e, zipD_len]; omega⟩, fun d hd => ?_⟩
  obtain ⟨d1, d2, h1, h2, rfl⟩ := zipD_get l k i d hd
  obtain ⟨y1, hy1, ry1⟩ := rs.get h1
  obtain ⟨y2, hy2, ry2⟩ := rs'.get h2
  refine ⟨⟨vs, us, y1, y2, SqL.of ha, SqL.of hb, hy1, hy2⟩, fun x H' hx => ?_⟩
  obtain ⟨T, u1, u2, rfl, hT, rfl, hu1, hu2⟩ := hx
  have t1 := hu1 vs (SqL.of ha)
  have t2 := hu2 us (SqL.of hb)
  rw [hy1] at t1
  rw [hy2] at t2
  cases t1
  cases t2
  exact pair_new w (.cons (ry1.mono kp.1) (.cons (ry2.mono kp.1) .nil)) hT
def iEn (A : SA) : SA := fun ρ φ => (A ρ φ).bind fun ds φ1 => match ds with | [.lst l] => .ok (enumD 0 l) φ1 | _ => .bad
def iZp (A : SA) : SA := fun ρ φ => (A ρ φ).bind fun ds φ1 => match ds with | [.lst l, .lst k] => .ok (zipD l k) φ1 | _ => .bad
theorem RAll.one' {m : Md} {Z H H0 : Hp} {xs : List V} {d : D} (r : RAll m c.K c.f H0 Z H xs [d]) : ∃ x, xs = [x] ∧ Res m c.K c.f H0 Z H x d := by
  match xs, r with
  | [x], r => exact ⟨x, rfl, r.1⟩
  | _ :: _ :: _, r => exact r.2.elim
theorem RAll.two' {m : Md} {Z H H0 : Hp} {xs : List V} {d e : D} (r : RAll m c.K c.f H0 Z H xs [d, e]) : ∃ x y, xs = [x, y] ∧ Res m c.K c.f H0 Z H x d ∧ Res m c.K c.f H0 Z H y e := by
  match xs, r with
  | [x, y], r => exact ⟨x, y, rfl, r.1, r.2.1⟩
  | [_], r => exact r.2.elim
  | _ :: _ :: _ :: _, r => exact r.2.2.elim
theorem i_enum {elts : List Expr} {kk : Nat} {tpos : Pos} (hK : X.K = c.K) (hm : X.mg "enumerate" = none) (ha : AX X c own (Wm q) W [a] A) (hg : Gl X "enumerate" := by rfl) (hs : starEach [a] X.env = [(false, eval a X.env)] := by rfl) :
    IJ X c own q W (.Tuple elts kk tpos) (.Call (.Name "enumerate" p) [a] [] pos) (iEn A) := by
  refine PI.weak (pi_enum hg hm ha hs) ?_
  rintro σ H R0 ⟨Z, ρ, φ, R, h⟩
  refine ⟨Z, ρ, φ, R, PostA.bindI (R0 := R0) h fun ds φ1 xs Z1 H1 e1 w1 r1 h1 => ?_⟩
  revert r1 h1
  split
  · intro r1 h2
    obtain ⟨x, rfl, r2⟩ := r1.one'
    obtain ⟨a, vs, rfl, ha, rs, hk⟩ := lst_at w1 (r2.any (by cases q <;> decide))
    exact ⟨a, vs, rfl, SqL.of ha, by rw [hK]; exact h2 _ Z1 H1 .refl w1 (walk_enum rs hk)⟩
  · intro _ h2
    exact h2.elim
theorem i_zip {elts : List Expr} {kk : Nat} {tpos : Pos} (hK : X.K = c.K) (hm : X.mg "zip" = none) (ha : AX X c own (Wm q) W [a, b] A) (hg : Gl X "zip" := by rfl)
    (hs : starEach [a, b] X.env = (false, eval a X.env) :: starEach [b] X.env := by rfl) (hpl : (backTo pos (starEach [b] X.env)).any (·.1) = false := by rfl) :
    IJ X c own q W (.Tuple elts kk tpos) (.Call (.Name "zip" p) [a, b] [] pos) (iZp A) := by
  refine PI.weak (pi_zip hg hm ha hs hpl) ?_
  rintro σ H R0 ⟨Z, ρ, φ, R, h⟩
  refine ⟨Z, ρ, φ, R, PostA.bindI (R0 := R0) h fun ds φ1 xs Z1 H1 e1 w1 r1 h1 => ?_⟩
  revert r1 h1
  split
  · intro r1 h2
    obtain ⟨x, y, rfl, r2, r3⟩ := r1.two'
    obtain ⟨a, vs, rfl, ha, rs, hk⟩ := lst_at w1 (r2.any (by cases q <;> decide))
    obtain ⟨b, us, rfl, hb, rs', hk'⟩ := lst_at w1 (r3.any (by cases q <;> decide))
    exact ⟨a, b, vs, us, rfl, SqL.of ha, SqL.of hb, by rw [hK]; exact h2 _ Z1 H1 .refl w1 (walk_zip rs hk rs' hk')⟩
  · intro _ h2
    exact h2.elim
end
end
end Pf

set_option Elab.async false
set_option linter.all false
set_option maxRecDepth 100000
set_option maxHeartbeats 4000000
namespace Pf
open PySem PySem.Spec PyProof.Rows L2

/-! ## comprehensions -/
def wipeE (ρ : En) : List Nat → En
  | [] => ρ
  | v :: vs => (wipeE ρ vs).set v none
/-- what raises is no way out of a comprehension -/
def O.still {α : Type} : O α → O α
  | .ok a φ => .ok a φ
  | _ => .bad
/-- the turns of a comprehension -/
def lcGo (T : Tg) (tst : SB) (elt : SX) (ρ : En) : List D → Fd → O (List D)
  | [], φ => .ok [] φ
  | d :: ds, φ => match T d ρ with
    | none => .bad
    | some ρ1 => match tst ρ1 φ with
      | .ok true φ1 => match elt ρ1 φ1 with
        | .ok y φ2 => match lcGo T tst elt ρ ds φ2 with
          | .ok ys φ3 => .ok (y :: ys) φ3
          | _ => .bad
        | _ => .bad
      | .ok false φ1 => lcGo T tst elt ρ ds φ1
      | _ => .bad
def eLc (I : SA) (T : Tg) (tst : SB) (elt : SX) (vs : List Nat) : SX := fun ρ φ => (I ρ φ).bind fun ds φ1 => match lcGo T tst elt (wipeE ρ vs) ds φ1 with
  | .ok ys φ2 => if ys.length ≤ sizeLine then .ok (.lst ys) φ2 else .bad
  | _ => .bad
def bYes : SB := fun _ φ => .ok true φ
theorem lcGo_cons {T : Tg} {tst : SB} {elt : SX} {ρ : En} {d : D} {ds ys : List D} {φ φ' : Fd} (h : lcGo T tst elt ρ (d :: ds) φ = .ok ys φ') :
    ∃ ρ1 b φ1, T d ρ = some ρ1 ∧ tst ρ1 φ = .ok b φ1 ∧ ((b = false ∧ lcGo T tst elt ρ ds φ1 = .ok ys φ') ∨ (b = true ∧ ∃ y φ2 r, elt ρ1 φ1 = .ok y φ2 ∧ lcGo T tst elt ρ ds φ2 = .ok r φ' ∧ ys = y :: r)) := by
  unfold lcGo at h
  cases e1 : T d ρ with
  | none => rw [e1] at h; cases h
  | some ρ1 =>
    rw [e1] at h
    cases e2 : tst ρ1 φ with
    | ex _ _ _ => simp only [e2] at h; cases h
    | bad => simp only [e2] at h; cases h
    | ok b φ1 =>
      cases b with
      | false => simp only [e2] at h; exact ⟨ρ1, false, φ1, rfl, e2, .inl ⟨rfl, h⟩⟩
      | true =>
        simp only [e2] at h
        cases e3 : elt ρ1 φ1 with
        | ex _ _ _ => simp only [e3] at h; cases h
        | bad => simp only [e3] at h; cases h
        | ok y φ2 =>
          simp only [e3] at h
          cases e4 : lcGo T tst elt ρ ds φ2 with
          | ex _ _ _ => simp only [e4] at h; cases h
          | bad => simp only [e4] at h; cases h
          | ok r φ3 =>
            simp only [e4] at h
            cases h
            exact ⟨ρ1, true, φ1, rfl, e2, .inr ⟨rfl, y, φ2, r, e3, e4, rfl⟩⟩
def W0 : WX := fun _ _ _ _ => False
section
variable {c : Ct} {own : List Ms} {Z H Z' H' : Hp} {ρ : En} {φ φ' : Fd} {σ : L2.St}
/-- the slots of a block forgotten -/
theorem Rl.wipe (R : Rl c own Z ρ φ σ H) : ∀ vs : List Nat, Rl c own Z (wipeE ρ vs) φ (L2.wipe σ vs) H
  | [] => R
  | v :: vs => by
    have R1 := R.wipe vs
    show Rl c own Z ((wipeE ρ vs).set v none) φ ((L2.wipe σ vs).set v none) H
    have back : ∀ {j : Nat} {d : D}, ((wipeE ρ vs).set v none)[j]? = some (some d) → j ≠ v ∧ (wipeE ρ vs)[j]? = some (some d) := fun {j d} h => by
      rcases get_set h with ⟨_, q⟩ | ⟨hj, q⟩
      · cases q
      · exact ⟨hj, q⟩
    refine ⟨R1.wf, R1.ext, by simpa using R1.len, fun j d h1 h2 h3 => ?_, fun j d h1 h2 => ?_, fun j k a d e hjk h1 h2 h3 h4 h5 h6 h7 h8 => ?_, fun j d h1 h2 => ?_, fun j d h1 h2 => ?_⟩
    · obtain ⟨hj, q⟩ := back h1
      rw [List.getElem?_set_ne (Ne.symm hj)]
      exact R1.sh j d q h2 h3
    · obtain ⟨hj, q⟩ := back h1
      rw [List.getElem?_set_ne (Ne.symm hj)]
      exact R1.ow j d q h2
    · obtain ⟨hj, q⟩ := back h3
      obtain ⟨hk, q'⟩ := back h5
      rw [List.getElem?_set_ne (Ne.symm hj)] at h7
      rw [List.getElem?_set_ne (Ne.symm hk)] at h8
      exact R1.ne j k a d e hjk h1 h2 q h4 q' h6 h7 h8
    · obtain ⟨hj, q⟩ := back h1
      rw [List.getElem?_set_ne (Ne.symm hj)]
      exact R1.pn j d q h2
    · obtain ⟨hj, q⟩ := back h1
      rw [List.getElem?_set_ne (Ne.symm hj)]
      exact R1.pk j d q h2
end
/-- the own-list within a block -/
def ownB (own : List Ms) (vs : List Nat) : List Ms := vs.foldr (fun i o => o.set i .s) own
theorem ownB_get {own : List Ms} {j : Nat} : ∀ {vs : List Nat}, (ownB own vs)[j]? = some .o → own[j]? = some .o
  | [], h => h
  | v :: vs, h => by
    have h' : ((ownB own vs).set v .s)[j]? = some .o := h
    rcases get_set h' with ⟨_, q⟩ | ⟨_, q⟩
    · cases q
    · exact ownB_get q
theorem ownB_in {own : List Ms} {j : Nat} : ∀ {vs : List Nat}, j ∈ vs → (ownB own vs)[j]? ≠ some .o
  | v :: vs, h => by
    show ((ownB own vs).set v .s)[j]? ≠ some .o
    intro q
    rcases get_set q with ⟨_, q⟩ | ⟨hj, q⟩
    · cases q
    · exact ownB_in ((List.mem_cons.mp h).resolve_left hj) q
theorem ownB_out {own : List Ms} {j : Nat} : ∀ {vs : List Nat}, j ∉ vs → (ownB own vs)[j]? = own[j]?
  | [], _ => rfl
  | v :: vs, h => by
    show ((ownB own vs).set v .s)[j]? = own[j]?
    rw [List.getElem?_set_ne (fun e => h (by rw [e]; exact List.mem_cons_self))]
    exact ownB_out fun q => h (List.mem_cons_of_mem _ q)
theorem wipeE_in {ρ : En} : ∀ {vs : List Nat} {i : Nat} {d : D}, i ∈ vs → (wipeE ρ vs)[i]? ≠ some (some d)
  | v :: vs, i, d, h => by
    show ((wipeE ρ vs).set v none)[i]? ≠ some (some d)
    intro q
    rcases get_set q with ⟨_, q⟩ | ⟨hj, q⟩
    · cases q
    · exact wipeE_in ((List.mem_cons.mp h).resolve_left hj) q
theorem Rl.block {c : Ct} {own : List Ms} {Z H : Hp} {ρ : En} {φ : Fd} {σ : L2.St} (R : Rl c own Z ρ φ σ H) (vs : List Nat) : Rl c (ownB own vs) Z (wipeE ρ vs) φ (L2.wipe σ vs) H := by
  have R1 := R.wipe vs
  refine ⟨R1.wf, R1.ext, R1.len, fun j d h1 h2 h3 => ?_, fun j d h1 h2 => R1.ow j d h1 (ownB_get h2), fun j k a d e hjk h1 h2 => R1.ne j k a d e hjk (ownB_get h1) (ownB_get h2), fun j d h1 h2 => ?_, fun j d h1 h2 => ?_⟩
  · by_cases hj : j ∈ vs
    · exact absurd h1 (wipeE_in hj)
    · exact R1.sh j d h1 (by rw [← ownB_out (vs := vs) hj]; exact h2) (by rw [← ownB_out (vs := vs) hj]; exact h3)
  · have hj : j ∉ vs := fun hj => wipeE_in hj h1
    rw [ownB_out hj] at h2
    exact R1.pn j d h1 h2
  · have hj : j ∉ vs := fun hj => wipeE_in hj h1
    rw [ownB_out hj] at h2
    exact R1.pk j d h1 h2

section
variable {X : Cx} {c : Ct} {own o1 : List Ms} {q : Bool} {W : WX} {pos : Pos}
/-- what the turns of a comprehension need: within the block -/
theorem lc_read {I : SA} {T : Tg} {tst : SB} {elt : SX} {vs is : List Nat} {σ : L2.St} {H : Hp} {Q : VK} (his : ∀ j ∈ is, j ∈ vs) (h : tE c own .o W (eLc I T tst elt vs) σ H Q) :
    tLc (tI c own true W I) (tT c (ownB own vs) o1 is T) (tB c o1 W0 tst) (tE c o1 .s W0 elt) vs σ H Q := by
  obtain ⟨Z, ρ, φ, R, h⟩ := h
  refine ⟨Z, ρ, φ, R, ?_⟩
  unfold eLc at h
  cases hI : I ρ φ with
  | bad => rw [hI] at h; exact h
  | ex y l φ' => rw [hI] at h; exact h
  | ok ds φ1 =>
    rw [hI] at h
    intro J Z1 H1 e1 w1 wk D hD
    have hgo : ∃ ys φ2, lcGo T tst elt (wipeE ρ vs) ds φ1 = .ok ys φ2 ∧ ys.length ≤ sizeLine ∧ Post c .o W (.ok (.lst ys) φ2) σ Z H Q := by
      have h' : Post c .o W (match lcGo T tst elt (wipeE ρ vs) ds φ1 with
        | .ok ys φ2 => if ys.length ≤ sizeLine then .ok (.lst ys) φ2 else .bad
        | _ => .bad) σ Z H Q := h
      cases hg : lcGo T tst elt (wipeE ρ vs) ds φ1 with
      | bad => rw [hg] at h'; exact h'.elim
      | ex _ _ _ => rw [hg] at h'; exact h'.elim
      | ok ys φ2 =>
        rw [hg] at h'
        obtain ⟨h1, h2⟩ := iteO_ok (E := fun o => Post c .o W o σ Z H Q) h' fun z => z
        exact ⟨ys, φ2, rfl, h1, h2⟩
    obtain ⟨tot, φe, hgo, hsz, hpost⟩ := hgo
    have hDf : D ≠ c.f := fun e => w1.hf (by rw [← e]; exact hD)
    have hDz : ∀ Z2 H2, Ext c.f Z1 H1 Z2 H2 → True := fun _ _ _ => trivial
    -- the invariant
    refine ⟨fun i m Hn => m = ds.length - i ∧ i ≤ ds.length ∧ ∃ Zn φn acc accV rest, (∀ a o, Z1 a = some o → Zn a = some o) ∧ (∀ a o, a ≠ c.f → H1 a = some o → Hn a = some o) ∧ (∀ a, H1 a ≠ none → Hn a ≠ none) ∧ (∀ a, H1 a ≠ none → Z1 a = none → Zn a = none) ∧ FdK c.f H1 Hn ∧
      Zn D = none ∧ Wf c.K c.f Zn Hn φn ∧ Hn D = some (.lst accV) ∧ Reps c.K c.f Zn accV acc ∧ lcGo T tst elt (wipeE ρ vs) (ds.drop i) φn = .ok rest φe ∧ acc ++ rest = tot, ⟨ds.length, by simp, Nat.zero_le _, ?_⟩, ?_⟩
    · have up : ∀ b u, H1 b = some u → upd H1 D (.lst []) b = some u := fun b u e => by rw [upd_ne (ne_of_none e hD)]; exact e
      have hz : Z1 D = none := by
        cases e : Z1 D with
        | none => rfl
        | some u => rw [w1.sub D u e] at hD; cases hD
      refine ⟨Z1, φ1, [], [], tot, fun _ _ e => e, fun b u _ e => up b u e, fun b hb => ?_, fun _ _ e => e, .same (upd_ne (Ne.symm hDf)), hz, ⟨fun b u e => up b u (w1.sub b u e), w1.zf, ?_, w1.ok⟩, upd_same, .nil, hgo, rfl⟩
      · cases e : H1 b with
        | none => exact absurd e hb
        | some u => rw [up b u e]; simp
      · obtain ⟨s, k1, k2⟩ := w1.feed
        exact ⟨s, k1, up _ _ k2⟩
    · rintro i m Hn ⟨rfl, hi, Zn, φn, acc, accV, rest, kz, kh, kk, kn, kd, nD, wn, hDn, ra, hg, ht⟩
      have en : Ext c.f Z1 H1 Zn Hn := ⟨kz, kh, kk, kn, kd⟩
      obtain ⟨wk1, wk2⟩ := wk i Zn Hn φn ⟨kz, fun _ => kh, (((R.more e1 w1).ext.trans en)).h⟩ wn
      by_cases hlt : i < ds.length
      · obtain ⟨d, hd⟩ : ∃ d, ds[i]? = some d := ⟨_, List.getElem?_eq_getElem hlt⟩
        obtain ⟨go, step⟩ := wk2 d hd
        rw [List.drop_eq_getElem_cons hlt] at hg
        have hdd : ds[i] = d := by
          rw [List.getElem?_eq_getElem hlt] at hd
          exact Option.some.inj hd
        rw [hdd] at hg
        obtain ⟨ρ1, b, φt, hT, htst, hcase⟩ := lcGo_cons hg
        refine .inr ⟨go, fun H' => ∃ m', m' < ds.length - i ∧ (m' = ds.length - (i + 1) ∧ i + 1 ≤ ds.length ∧ ∃ Zn φn acc accV rest, (∀ a o, Z1 a = some o → Zn a = some o) ∧ (∀ a o, a ≠ c.f → H1 a = some o → H' a = some o) ∧ (∀ a, H1 a ≠ none → H' a ≠ none) ∧ (∀ a, H1 a ≠ none → Z1 a = none → Zn a = none) ∧ FdK c.f H1 H' ∧
          Zn D = none ∧ Wf c.K c.f Zn H' φn ∧ H' D = some (.lst accV) ∧ Reps c.K c.f Zn accV acc ∧ lcGo T tst elt (wipeE ρ vs) (ds.drop (i + 1)) φn = .ok rest φe ∧ acc ++ rest = tot), fun H' h => h, fun x Hx hx => ?_⟩
        obtain ⟨Zx, ex, wx, rx⟩ := step x Hx hx
        have exx := en.trans ex
        have Rb : Rl c (ownB own vs) Zx (wipeE ρ vs) φn (L2.wipe σ vs) Hx := ((R.more e1 w1).more exx wx).block vs
        refine ⟨Zx, wipeE ρ vs, φn, d, ρ1, Rb, rx, hT, fun σ2 tr agr => ⟨?_, Zx, ρ1, φn, tr Zx Hx φn Sub.refl Rb, ?_⟩⟩
        · have hh : L2.wipe σ2 vs = L2.wipe (L2.wipe σ vs) vs := agr.wipe his
          rw [hh]
          refine Agr.wipe (is := vs) ⟨wipe_length _ _, fun j hj => wipe_out hj⟩ fun j h => h
        · have R2 := tr Zx Hx φn Sub.refl Rb
          have nDx : Zx D = none := ex.n D (by rw [hDn]; simp) nD
          have hDx : Hx D = some (.lst accV) := ex.h D _ hDf hDn
          rw [htst]
          intro Z3 H3 e3 w3
          have nD3 : Z3 D = none := e3.n D (by rw [hDx]; simp) nDx
          have hD3 : H3 D = some (.lst accV) := e3.h D _ hDf hDx
          have en3 := exx.trans e3
          have ra3 := (ra.mono ex.z).mono e3.z
          rcases hcase with ⟨rfl, hr⟩ | ⟨rfl, y, φy, r, hy, hr, hys⟩
          · rw [if_neg (by decide)]
            exact ⟨ds.length - (i + 1), by omega, rfl, hlt, Z3, φt, acc, accV, rest, en3.z, en3.h, en3.k, en3.n, en3.d, nD3, w3, hD3, ra3, hr, ht⟩
          · rw [if_pos rfl]
            refine ⟨Z3, ρ1, φt, R2.more e3 w3, ?_⟩
            rw [hy]
            intro v Z4 H4 e4 w4 r4
            have r4' : Rep c.K c.f Z4 v y := r4
            have nD4 : Z4 D = none := e4.n D (by rw [hD3]; simp) nD3
            have hD4 : H4 D = some (.lst accV) := e4.h D _ hDf hD3
            have en4 := en3.trans e4
            have ra4 := ra3.mono e4.z
            have hacc : accV.length < sizeLine := by
              have h1 := ra.length
              have h2 : (acc ++ rest).length ≤ sizeLine := by rw [ht]; exact hsz
              rw [hys, List.length_append, List.length_cons] at h2
              omega
            refine ⟨accV, hD4, hacc, ds.length - (i + 1), by omega, rfl, hlt, Z4, φy, acc ++ [y], accV ++ [v], r, en4.z, fun a o ha hh => ?_, fun a ha => ?_, en4.n, en4.d.trans (.same (upd_ne (Ne.symm hDf))), nD4, ⟨fun a o ha => ?_, w4.zf, ?_, w4.ok⟩, upd_same, ra4.app (.cons r4' .nil), hr, ?_⟩
            · rw [upd_ne (ne_of_none hh hD)]; exact en4.h a o ha hh
            · by_cases hb : a = D
              · rw [hb, upd_same]; simp
              · rw [upd_ne hb]; exact en4.k a ha
            · rw [upd_ne (fun e => by rw [e, nD4] at ha; cases ha)]; exact w4.sub a o ha
            · obtain ⟨s, k1, k2⟩ := w4.feed
              exact ⟨s, k1, by rw [upd_ne (Ne.symm hDf)]; exact k2⟩
            · rw [List.append_assoc]; rw [← ht, hys]; rfl
      · have hie : i = ds.length := by omega
        refine .inl ⟨wk1 hie, ?_⟩
        rw [hie, List.drop_length] at hg
        cases hg
        rw [List.append_nil] at ht
        subst ht
        have e2 := e1.trans en
        refine hpost (.ref D) Zn Hn e2 wn ?_
        show Res .o c.K c.f H Zn Hn (.ref D) (.lst acc)
        unfold Res
        rw [if_pos (by rfl)]
        refine ⟨D, .lst accV, rfl, ?_, nD, hDf, hDn, .lst ra⟩
        cases e : H D with
        | none => rfl
        | some u => exact absurd hD (e1.k D (by rw [e]; simp))
theorem x_lc {elt tg iter : Expr} {ifs : List Expr} {scope : Scope} (nm : List (Str × Nat)) {is : List Nat} {I : SA} {T : Tg} {tst : SB} {elt' : SX} (hc : X.calm = true) (hN : X.N.Nodup) (ok : blkC X.N X.env.scope scope nm = true)
    (hi : IJ X c own true W tg iter I)
    (hg : ∀ (s : Shared) (H : Hp) (C : Addr) (cl : List (Str × Addr)) (fp : List Addr), TJ (X.blk s H scope (compEnvC scope cl C X.env) fp) c (ownB own (nm.map (·.2))) o1 is tg T)
    (ht : ∀ (s : Shared) (H : Hp) (C : Addr) (cl : List (Str × Addr)) (fp : List Addr), PTs (X.blk s H scope (compEnvC scope cl C X.env) fp) ifs (tB c o1 W0 tst))
    (he : ∀ (s : Shared) (H : Hp) (C : Addr) (cl : List (Str × Addr)) (fp : List Addr), EX (X.blk s H scope (compEnvC scope cl C X.env) fp) c o1 .s W0 elt elt')
    (hs : ∀ x, foldedSetIterable iter X.env x = pure x := by intro _; rfl) (hsub : ∀ j ∈ is, j ∈ nm.map (·.2) := by decide) :
    EX X c own .o W (.ListComp elt [⟨tg, iter, ifs, 0⟩] scope pos) (eLc I T tst elt' (nm.map (·.2))) :=
  PE.weak (pe_lc hc hN hi (blkOk_by ok) hg ht he hs) fun _ _ _ h => lc_read hsub h
theorem t_yes : PTs X [] (tB c own W bYes) := ⟨fun pins s σ H Q I ⟨Z, ρ, φ, R, h⟩ => pts_nil.run pins s σ H Q I (h Z H .refl R.wf)⟩
theorem t_one {e : Expr} {A : SB} (h : BX X c own W e A) : PTs X [e] (tB c own W A) := pts_one h
end
end Pf

set_option Elab.async false
set_option linter.all false
set_option maxRecDepth 100000
set_option maxHeartbeats 4000000
namespace Pf
open PySem PySem.Spec PyProof.Rows L2

/-! ## blocks -/
def sNil : SS := fun ρ φ => .nx ρ φ
def R.seq (r : R) (k : SS) : R :=
  match r with
  | .nx ρ φ => k ρ φ
  | r => r
def sSeq (A B : SS) : SS := fun ρ φ => (A ρ φ).seq B
section
variable {X : Cx} {c : Ct} {w : Ow} {own o1 on : List Ms} {pos : Pos}
theorem s_nil : SJs X c w own own [] sNil := PSs.weak pss_nil fun Dn σ H ⟨Z, ρ, φ, R0, h⟩ => h σ Z H Sub.refl R0
theorem s_cons {st : Stmt} {sts : List Stmt} {A B : SS} (h1 : SJ X c w own o1 st A) (h2 : SJs X c w o1 on sts B) : SJs X c w own on (st :: sts) (sSeq A B) := by
  refine PSs.weak (pss_cons h1 h2) ?_
  rintro Dn σ H ⟨Z, ρ, φ, R0, h⟩
  refine ⟨Z, ρ, φ, R0, ?_⟩
  unfold sSeq at h
  cases e : A ρ φ with
  | nx ρ1 φ1 =>
    rw [e] at h
    exact fun σ1 Z1 H1 k R1 => ⟨Z1, ρ1, φ1, R1, h.shift k⟩
  | rt d φ1 => rw [e] at h; exact h
  | bk ρ1 φ1 => rw [e] at h; exact h
  | ct ρ1 φ1 => rw [e] at h; exact h
  | ex y l ρ1 φ1 => rw [e] at h; exact h
  | bad => rw [e] at h; exact h
/-- cells are frozen ahead of a block -/
theorem s_frz (is : List Nat) (hp : ∀ i ∈ is, own[i]? ≠ some .p) {sts : List Stmt} {A : SS} (h : SJs X c w (is.foldr (fun i o => o.set i .s) own) on sts A) : SJs X c w own on sts A := by
  refine PSs.weak h ?_
  rintro Dn σ H ⟨Z, ρ, φ, R0, h⟩
  obtain ⟨Z', k, R1⟩ := R0.frzs is hp
  exact ⟨Z', ρ, φ, R1, h.shift k⟩
theorem s_frz1 (is : List Nat) (hp : ∀ i ∈ is, own[i]? ≠ some .p) {st : Stmt} {A : SS} (h : SJ X c w (is.foldr (fun i o => o.set i .s) own) on st A) : SJ X c w own on st A := by
  refine PS.weak h ?_
  rintro Dn σ H ⟨Z, ρ, φ, R0, h⟩
  obtain ⟨Z', k, R1⟩ := R0.frzs is hp
  exact ⟨Z', ρ, φ, R1, h.shift k⟩
/-- .. behind it -/
theorem s_end (is : List Nat) (hp : ∀ i ∈ is, on[i]? ≠ some .p) {sts : List Stmt} {A : SS} (h : SJs X c w own on sts A) : SJs X c w own (is.foldr (fun i o => o.set i .s) on) sts A := by
  refine PSs.weak h ?_
  rintro Dn σ H ⟨Z, ρ, φ, R0, h⟩
  refine ⟨Z, ρ, φ, R0, ?_⟩
  cases e : A ρ φ with
  | nx ρ1 φ1 =>
    rw [e] at h
    intro σ1 Z1 H1 k R1
    obtain ⟨Z2, k2, R2⟩ := R1.frzs is hp
    exact h σ1 Z2 H1 (k.trans k2) R2
  | rt d φ1 => rw [e] at h; exact h
  | bk ρ1 φ1 => rw [e] at h; exact h
  | ct ρ1 φ1 => rw [e] at h; exact h
  | ex y l ρ1 φ1 => rw [e] at h; exact h
  | bad => rw [e] at h; exact h
/-- a block that never comes to its end may end with any own-list -/
theorem s_any {o2 : List Ms} {sts : List Stmt} {A : SS} (h : SJs X c w own on sts A) (hn : ∀ ρ φ ρ' φ', A ρ φ ≠ .nx ρ' φ') : SJs X c w own o2 sts A := by
  refine PSs.weak h ?_
  rintro Dn σ H ⟨Z, ρ, φ, R0, h⟩
  refine ⟨Z, ρ, φ, R0, ?_⟩
  cases e : A ρ φ with
  | nx ρ1 φ1 => exact absurd e (hn _ _ _ _)
  | rt d φ1 => rw [e] at h; exact h
  | bk ρ1 φ1 => rw [e] at h; exact h
  | ct ρ1 φ1 => rw [e] at h; exact h
  | ex y l ρ1 φ1 => rw [e] at h; exact h
  | bad => rw [e] at h; exact h

/-! ## simple statements -/
def sSet (i : Nat) (A : SX) : SS := fun ρ φ => (A ρ φ).toR ρ fun d φ1 => .nx (ρ.set i (some d)) φ1
theorem set_read (i : Nat) {A : SX} {m : Md} {Dn : Ends} {σ : L2.St} {H : Hp} (hx : w.ox own) (hm : (m = .o ∧ i < own.length ∧ on = own.set i .o) ∨ (m = .s ∧ on = own.set i .s)) (h : tS c w own on (sSet i A) Dn σ H) :
    tAsg (tE c own m w.W A) (gName i) Dn σ H := by
  obtain ⟨Z, ρ, φ, R0, h⟩ := h
  refine ⟨Z, ρ, φ, R0, Post.toS (w := w) hx R0 h fun d φ1 v Z1 H1 e1 w1 r1 h1 => ?_⟩
  rcases hm with ⟨rfl, hi, rfl⟩ | ⟨rfl, rfl⟩
  · exact h1 _ Z1 H1 Sub.refl (R0.setO e1 w1 hi r1)
  · exact h1 _ Z1 H1 Sub.refl ((R0.more e1 w1).setS r1)
theorem s_setO (i : Nat) {x : Str} {e : Expr} {A : SX} {pos' : Pos} (hN : X.N.Nodup) (ha : EX X c own .o w.W e A) (hi : X.N[i]? = some x := by rfl) (hx : Loc X.env.scope x := by first | exact Or.inl rfl | exact Or.inr rfl) (hl : i < own.length := by decide)
    (hs : swapsWith e (some (.Name x pos')) pos.line X.env = pure false := by rfl) (hf : X.fn x = true ∨ X.env.scope.names.lookup x = some .local := by first | exact .inl rfl | exact .inr rfl) (ho : w.ox own := by first | exact trivial | rfl) :
    SJ X c w own (own.set i .o) (.Assign [.Name x pos'] e pos) (sSet i A) :=
  PS.weak (ps_set hN hi hx ha hs hf) fun Dn σ H h => set_read i ho (.inl ⟨rfl, hl, rfl⟩) h
theorem s_setS (i : Nat) {x : Str} {e : Expr} {A : SX} {pos' : Pos} (hN : X.N.Nodup) (ha : EX X c own .s w.W e A) (hi : X.N[i]? = some x := by rfl) (hx : Loc X.env.scope x := by first | exact Or.inl rfl | exact Or.inr rfl)
    (hs : swapsWith e (some (.Name x pos')) pos.line X.env = pure false := by rfl) (hf : X.fn x = true ∨ X.env.scope.names.lookup x = some .local := by first | exact .inl rfl | exact .inr rfl) (ho : w.ox own := by first | exact trivial | rfl) :
    SJ X c w own (own.set i .s) (.Assign [.Name x pos'] e pos) (sSet i A) :=
  PS.weak (ps_set hN hi hx ha hs hf) fun Dn σ H h => set_read i ho (.inr ⟨rfl, rfl⟩) h
/-- name = [.. for ..], the name a local of the def -/
theorem s_setLc (i : Nat) {y : Str} {py : Pos} {elt tg iter : Expr} {ifs : List Expr} {scope : Scope} (nm : List (Str × Nat)) {is : List Nat} {I : SA} {T : Tg} {tst : SB} {elt' : SX} {lcp : Pos} (hc : X.calm = true) (hN : X.N.Nodup) (ok : blkC X.N X.env.scope scope nm = true)
    (hi : IJ X c own true w.W tg iter I)
    (hg : ∀ (s : Shared) (H : Hp) (C : Addr) (cl : List (Str × Addr)) (fp : List Addr), TJ (X.blk s H scope (compEnvC scope cl C X.env) fp) c (ownB own (nm.map (·.2))) o1 is tg T)
    (ht : ∀ (s : Shared) (H : Hp) (C : Addr) (cl : List (Str × Addr)) (fp : List Addr), PTs (X.blk s H scope (compEnvC scope cl C X.env) fp) ifs (tB c o1 W0 tst))
    (he : ∀ (s : Shared) (H : Hp) (C : Addr) (cl : List (Str × Addr)) (fp : List Addr), EX (X.blk s H scope (compEnvC scope cl C X.env) fp) c o1 .s W0 elt elt')
    (hy : X.N[i]? = some y := by rfl) (hyl : X.env.scope.names.lookup y = some .local := by rfl) (hsw : swapsWith (.ListComp elt [⟨tg, iter, ifs, 0⟩] scope lcp) (some (.Name y py)) pos.line X.env = pure true := by exact sw_true rfl rfl rfl (by decide +kernel))
    (hl : i < own.length := by decide) (hs : ∀ x, foldedSetIterable iter X.env x = pure x := by intro _; rfl) (hsub : ∀ j ∈ is, j ∈ nm.map (·.2) := by decide) (ho : w.ox own := by first | exact trivial | rfl) :
    SJ X c w own (own.set i .o) (.Assign [.Name y py] (.ListComp elt [⟨tg, iter, ifs, 0⟩] scope lcp) pos) (sSet i (eLc I T tst elt' (nm.map (·.2)))) := by
  refine PS.weak (ps_setLc hc hN hy hyl hsw hi (blkOk_by ok) hg ht he hs) fun Dn σ H h => ?_
  have h2 := set_read (m := .o) i ho (.inl ⟨rfl, hl, rfl⟩) h
  exact lc_read hsub h2
/-- targets of several names -/
def sAsg (T : Tg) (A : SX) : SS := fun ρ φ => (A ρ φ).toR ρ fun d φ1 => match T d ρ with
  | some ρ' => .nx ρ' φ1
  | none => .bad
theorem s_asg {tg e : Expr} {T : Tg} {A : SX} {is : List Nat} (ha : EX X c own .s w.W e A) (hg : TJ X c own on is tg T) (hs : swapsWithSole [tg] e pos.line X.env = pure false := by rfl) (hw : swappedStores [tg] e X.env = pure none := by rfl)
    (h1 : (assignEach [tg] X.env).map (·.2) = [assign tg X.env] := by rfl) (ho : w.ox own := by first | exact trivial | rfl) : SJ X c w own on (.Assign [tg] e pos) (sAsg T A) := by
  refine PS.weak (ps_asg ha hg hs hw h1) ?_
  rintro Dn σ H ⟨Z, ρ, φ, R0, h⟩
  refine ⟨Z, ρ, φ, R0, Post.toS (w := w) ho R0 h fun d φ1 v Z1 H1 e1 w1 r1 h1 => ?_⟩
  cases eT : T d ρ with
  | none => simp only [eT] at h1; exact h1.elim
  | some ρ' =>
    simp only [eT] at h1
    exact ⟨Z1, ρ, φ1, d, ρ', R0.more e1 w1, r1, eT, fun σ' tr _ => h1 σ' Z1 H1 Sub.refl (tr Z1 H1 φ1 Sub.refl (R0.more e1 w1))⟩
/-- a, b = x, y: the values first -/
def sPar (i j : Nat) (A : SA) : SS := fun ρ φ => (A ρ φ).toR ρ fun ds φ1 => match ds with
  | [d, e] => .nx ((ρ.set i (some d)).set j (some e)) φ1
  | _ => .bad
theorem s_par (i j : Nat) {x y : Str} {a b : Expr} {A : SA} {px py pt : Pos} {kt k2 pt2} (hc : X.calm = true) (hN : X.N.Nodup) (ha : AX X c own .s w.W [a, b] A) (hi : X.N[i]? = some x := by rfl) (hj : X.N[j]? = some y := by rfl) (hij : i ≠ j := by decide)
    (hx : X.env.scope.names.lookup x = some .local := by rfl) (hy : X.env.scope.names.lookup y = some .local := by rfl)
    (hw : swappedStores [.Tuple [.Name x px, .Name y py] kt pt] (.Tuple [a, b] k2 pt2) X.env = pure (some [x, y]) := by rfl)
    (hs : swapsWithSole [.Tuple [.Name x px, .Name y py] kt pt] (.Tuple [a, b] k2 pt2) pos.line X.env = pure false := by rfl) (ho : w.ox own := by first | exact trivial | rfl) :
    SJ X c w own ((own.set i .s).set j .s) (.Assign [.Tuple [.Name x px, .Name y py] kt pt] (.Tuple [a, b] k2 pt2) pos) (sPar i j A) := by
  refine PS.weak (ps_par hc hN hi hj hij hx hy ha hw hs) ?_
  rintro Dn σ H ⟨Z, ρ, φ, R0, h⟩
  refine ⟨Z, ρ, φ, R0, PostA.toS (w := w) ho R0 h fun ds φ1 vs Z1 H1 e1 w1 r1 h1 => ?_⟩
  revert r1 h1
  split
  · intro r1 h1
    obtain ⟨u, v, rfl, r2, r3⟩ := r1.two'
    exact ⟨u, v, rfl, h1 _ Z1 H1 Sub.refl (((R0.more e1 w1).setS r2).setS r3)⟩
  · intro _ h1
    exact h1.elim
/-- an expression alone -/
def sExp (A : SX) : SS := fun ρ φ => (A ρ φ).toR ρ fun _ φ1 => .nx ρ φ1
theorem s_exp {e : Expr} {A : SX} {m : Md} (ha : EX X c own m w.W e A) (hs : swapsWith e none pos.line X.env = pure false := by rfl) (ho : w.ox own := by first | exact trivial | rfl) : SJ X c w own own (.Expr e pos) (sExp A) := by
  refine PS.weak (ps_expr ha hs) ?_
  rintro Dn σ H ⟨Z, ρ, φ, R0, h⟩
  exact ⟨Z, ρ, φ, R0, Post.toS (w := w) ho R0 h fun d φ1 v Z1 H1 e1 w1 r1 h1 => h1 σ Z1 H1 Sub.refl (R0.more e1 w1)⟩
theorem s_doc {x j pos'} : SJ X c w own own (.Expr (.Constant (.str x) j pos) pos') sNil := PS.weak ps_doc fun Dn σ H ⟨Z, ρ, φ, R0, h⟩ => h σ Z H Sub.refl R0
theorem s_pass : SJ X c w own own (.Pass pos) sNil := PS.weak ps_pass fun Dn σ H ⟨Z, ρ, φ, R0, h⟩ => h σ Z H Sub.refl R0
def sBrk : SS := fun ρ φ => .bk ρ φ
def sCnt : SS := fun ρ φ => .ct ρ φ
theorem s_brk {m : Md} {W : WX} {ox : List Ms → Prop} : SJ X c ⟨m, W, ox, own⟩ own on (.Break pos) sBrk := PS.weak ps_break fun Dn σ H ⟨Z, ρ, φ, R0, h⟩ => h σ Z H Sub.refl R0
theorem s_cnt {m : Md} {W : WX} {ox : List Ms → Prop} : SJ X c ⟨m, W, ox, own⟩ own on (.Continue pos) sCnt := PS.weak ps_continue fun Dn σ H ⟨Z, ρ, φ, R0, h⟩ => h σ Z H Sub.refl R0
/-- return e -/
def sRet (A : SX) : SS := fun ρ φ => (A ρ φ).toR ρ fun d φ1 => .rt d φ1
theorem s_ret {e : Expr} {A : SX} (ha : EX X c own w.m w.W e A) (ho : w.ox own := by first | exact trivial | rfl) : SJ X c w own on (.Return (some e) pos) (sRet A) := by
  refine PS.weak (ps_ret ha) ?_
  rintro Dn σ H ⟨Z, ρ, φ, R0, h⟩
  refine ⟨Z, ρ, φ, R0, Post.toS (w := w) ho R0 h fun d φ1 v Z1 H1 e1 w1 r1 h1 => ?_⟩
  exact h1 v Z1 H1 (R0.more e1 w1).ext w1 (r1.start R0.ext.k)
/-- return x, x an own name: it goes out as it is -/
theorem s_retN (i : Nat) {x : Str} {p : Pos} (hm : w.m = .o := by rfl) (hw : own[i]? = some .o := by rfl) (hN : X.N[i]? = some x := by rfl) (hv : Vis X.env.scope x := by first | exact Or.inl rfl | exact Or.inr (Or.inl rfl) | exact Or.inr (Or.inr rfl)) (hd : (x == ("__debug__" : Str)) = false := by decide)
    (hcd : (x == ("__classdict__" : Str)) = false := by decide) : SJ X c w own on (.Return (some (.Name x p)) pos) (sRet (eVar i)) := by
  refine PS.weak (ps_ret (pe_var hN hv hd hcd)) ?_
  rintro Dn σ H ⟨Z, ρ, φ, R0, h⟩
  unfold sRet eVar at h
  split at h
  · rename_i d hdd
    obtain ⟨v, hv, r⟩ := R0.ow i d hdd hw
    exact ⟨v, hv, h v Z H R0.ext R0.wf (by rw [hm]; exact r)⟩
  · exact h.elim
def sRetN : SS := fun _ φ => .rt .non φ
theorem s_ret0 : SJ X c w own on (.Return none pos) sRetN := PS.weak ps_retN fun Dn σ H ⟨Z, ρ, φ, R0, h⟩ => h _ Z H R0.ext R0.wf (Res.of_flat .non rfl)
/-- if -/
def sIf (T : SB) (A B : SS) : SS := fun ρ φ => (T ρ φ).toR ρ fun b φ1 => if b = true then A ρ φ1 else B ρ φ1
theorem s_if {t : Expr} {a b : List Stmt} {T : SB} {A B : SS} (ht : BX X c own w.W t T) (ha : SJs X c w own on a A) (hb : SJs X c w own on b B) (ho : w.ox own := by first | exact trivial | rfl) : SJ X c w own on (.If t a b pos) (sIf T A B) := by
  refine PS.weak (ps_if ht ha hb) ?_
  rintro Dn σ H ⟨Z, ρ, φ, R0, h⟩
  refine ⟨Z, ρ, φ, R0, PostB.toS (w := w) ho R0 h fun d φ1 Z1 H1 e1 w1 h1 => ?_⟩
  cases d with
  | true => exact ⟨Z1, ρ, φ1, R0.more e1 w1, h1⟩
  | false => exact ⟨Z1, ρ, φ1, R0.more e1 w1, h1⟩

/-! ## own lists changed -/
/-- x.meth(e), x an own list: g the new list -/
def sMut (i : Nat) (g : List D → D → Option (List D)) (A : SX) : SS := fun ρ φ => match ρ[i]? with
  | some (some (.lst l)) => (A ρ φ).toR ρ fun e φ1 => (match g l e with | some l' => .nx (ρ.set i (some (.lst l'))) φ1 | none => .bad)
  | _ => .bad
theorem Rl.cell {Z H : Hp} {ρ : En} {φ : Fd} {σ : L2.St} (R0 : Rl c own Z ρ φ σ H) {i : Nat} {ds : List D} (ho : own[i]? = some .o) (hd : ρ[i]? = some (some (.lst ds))) : ∃ a vs, σ[i]? = some (some (.ref a)) ∧ H a = some (.lst vs) ∧ Reps c.K c.f Z vs ds ∧ Z a = none := by
  obtain ⟨u, hu, ru⟩ := R0.ow i _ hd ho
  unfold Res at ru
  rw [if_pos (by rfl)] at ru
  obtain ⟨a, o, rfl, _, hz, _, ha, rc⟩ := ru
  cases rc with
  | lst q => exact ⟨a, _, hu, ha, q, hz⟩
/-- g tells what the rule r asks -/
def MutG (r : V → List V → Hp → VK → Prop) (c : Ct) (m : Md) (g : List D → D → Option (List D)) : Prop :=
  ∀ (Z H H0 : Hp) (φ : Fd) (a : Addr) (vs : List V) (ds ds' : List D) (y : V) (e : D) (Q : VK), Wf c.K c.f Z H φ → H a = some (.lst vs) → Reps c.K c.f Z vs ds → Res m c.K c.f H0 Z H y e → g ds e = some ds' →
    (∀ vs', Reps c.K c.f Z vs' ds' → Q .non (upd H a (.lst vs'))) → r (.ref a) [y] H Q
theorem s_mut1 (i : Nat) {x nm : Str} {e : Expr} {A : SX} {p apos cpos pos2 : Pos} {m : Md} {r : V → List V → Hp → VK → Prop} {g : List D → D → Option (List D)} (hG : MutG r c m g)
    (hpe : PE X (.Call (.Attribute (.Name x p) nm apos) [e] [] cpos) (tBM X.K "list" r (tVar i) (tCons (tE c own m w.W A) tNil))) (hw : own[i]? = some .o := by rfl)
    (hs : swapsWith (.Call (.Attribute (.Name x p) nm apos) [e] [] cpos) none pos2.line X.env = pure false := by rfl) (ho : w.ox own := by first | exact trivial | rfl) :
    SJ X c w own own (.Expr (.Call (.Attribute (.Name x p) nm apos) [e] [] cpos) pos2) (sMut i g A) := by
  refine PS.weak (ps_expr hpe hs) ?_
  rintro Dn σ H ⟨Z, ρ, φ, R0, h⟩
  unfold sMut at h
  split at h
  · rename_i l hd
    obtain ⟨a, vs, ha, hH, rs, hz⟩ := R0.cell hw hd
    refine ⟨.ref a, ha, .inl ⟨rfl, vs, .inl (.inl hH)⟩, Z, ρ, φ, R0, Post.toS (w := w) ho R0 h fun d φ1 v Z1 H1 e1 w1 r1 h1 => ?_⟩
    split at h1
    · rename_i l' hg
      have R1 := R0.more e1 w1
      obtain ⟨b, us, hb, hH1, rs1, hz1⟩ := Rl.cell R1 hw hd
      rw [ha] at hb
      cases hb
      refine hG Z1 H1 H φ1 a us l l' v d _ w1 hH1 rs1 r1 hg fun vs' rs' => ?_
      exact h1 σ Z1 _ Sub.refl (R1.write hw hd rfl ha (.lst rs'))
    · exact h1.elim
  · exact h.elim
def gApp (l : List D) (e : D) : Option (List D) := if l.length < sizeLine then some (l ++ [e]) else none
def gExt (l : List D) (e : D) : Option (List D) := match e with
  | .lst k => if l.length + k.length ≤ sizeLine then some (l ++ k) else none
  | _ => none
theorem gApp_ok : MutG rAppend c .s gApp := by
  intro Z H H0 φ a vs ds ds' y e Q w ha rs ry hg h
  obtain ⟨hz, rfl⟩ := ifs hg
  exact ⟨a, vs, y, rfl, rfl, ha, by rw [rs.length]; exact hz, h _ (rs.app (.cons (show Rep c.K c.f Z y e from ry) .nil))⟩
theorem gExt_ok : MutG rExtend c .p gExt := by
  intro Z H H0 φ a vs ds ds' y e Q w ha rs ry hg h
  cases e with
  | lst k =>
    obtain ⟨hz, rfl⟩ := ifs hg
    obtain ⟨b, us, rfl, hb, rs'⟩ := (show Res .p c.K c.f H Z H y (.lst k) from ry).lst w
    exact ⟨a, b, vs, us, rfl, rfl, ha, hb, by rw [rs.length, rs'.length]; exact hz, h _ (rs.app rs')⟩
  | _ => cases hg
/-- x.append(e) -/
theorem s_append (i : Nat) {x : Str} {e : Expr} {A : SX} {p apos cpos pos2 : Pos} (ha : EX X c own .s w.W e A) (hw : own[i]? = some .o := by rfl) (hN : X.N[i]? = some x := by rfl) (hv : Vis X.env.scope x := by first | exact Or.inl rfl | exact Or.inr (Or.inl rfl) | exact Or.inr (Or.inr rfl))
    (hd : (x == ("__debug__" : Str)) = false := by decide) (hcd : (x == ("__classdict__" : Str)) = false := by decide)
    (hbase : attributeBase (.Name x p) "append" X.env (eval (.Name x p) X.env) = eval (.Name x p) X.env := by rfl)
    (hfew : ((backTo cpos (starEach [e] X.env)).all (fun x => !x.1) && (backToKw cpos (keywordEach [] X.env)).all (fun x => x.1.isSome) && decide ([e].length + ([] : List Keyword).length + (if ([] : List Keyword).isEmpty then 0 else 1) < 30)) = true := by rfl)
    (hline : (apos.endLine == cpos.line) = true := by rfl) (hse : starEach [e] X.env = (false, eval e X.env) :: starEach [] X.env := by rfl) (hplain : (backTo cpos (starEach [] X.env)).any (·.1) = false := by rfl)
    (hs : swapsWith (.Call (.Attribute (.Name x p) "append" apos) [e] [] cpos) none pos2.line X.env = pure false := by rfl) (ho : w.ox own := by first | exact trivial | rfl) :
    SJ X c w own own (.Expr (.Call (.Attribute (.Name x p) "append" apos) [e] [] cpos) pos2) (sMut i gApp A) :=
  s_mut1 i gApp_ok (pe_bm PySem.F.plainAttrs_list PySem.F.slot_list_append PySem.F.type_list_append mt_append (pe_var hN hv hd hcd) (pa_cons ha pa_nil hse) hbase hfew hline hse hplain) hw hs ho
theorem s_extend (i : Nat) {x : Str} {e : Expr} {A : SX} {p apos cpos pos2 : Pos} (ha : EX X c own .p w.W e A) (hw : own[i]? = some .o := by rfl) (hN : X.N[i]? = some x := by rfl) (hv : Vis X.env.scope x := by first | exact Or.inl rfl | exact Or.inr (Or.inl rfl) | exact Or.inr (Or.inr rfl))
    (hd : (x == ("__debug__" : Str)) = false := by decide) (hcd : (x == ("__classdict__" : Str)) = false := by decide)
    (hbase : attributeBase (.Name x p) "extend" X.env (eval (.Name x p) X.env) = eval (.Name x p) X.env := by rfl)
    (hfew : ((backTo cpos (starEach [e] X.env)).all (fun x => !x.1) && (backToKw cpos (keywordEach [] X.env)).all (fun x => x.1.isSome) && decide ([e].length + ([] : List Keyword).length + (if ([] : List Keyword).isEmpty then 0 else 1) < 30)) = true := by rfl)
    (hline : (apos.endLine == cpos.line) = true := by rfl) (hse : starEach [e] X.env = (false, eval e X.env) :: starEach [] X.env := by rfl) (hplain : (backTo cpos (starEach [] X.env)).any (·.1) = false := by rfl)
    (hs : swapsWith (.Call (.Attribute (.Name x p) "extend" apos) [e] [] cpos) none pos2.line X.env = pure false := by rfl) (ho : w.ox own := by first | exact trivial | rfl) :
    SJ X c w own own (.Expr (.Call (.Attribute (.Name x p) "extend" apos) [e] [] cpos) pos2) (sMut i gExt A) :=
  s_mut1 i gExt_ok (pe_bm PySem.F.plainAttrs_list PySem.F.slot_list_extend PySem.F.type_list_extend mt_extend (pe_var hN hv hd hcd) (pa_cons ha pa_nil hse) hbase hfew hline hse hplain) hw hs ho
/-- x[k] = e, x an own list -/
def sPut (i : Nat) (A B : SX) : SS := fun ρ φ => (A ρ φ).toR ρ fun d φ1 => match ρ[i]? with
  | some (some (.lst l)) => (B ρ φ1).toR ρ fun k φ2 => (match k with
    | .int z => (match ixN l.length z with | some j => .nx (ρ.set i (some (.lst (l.set j d)))) φ2 | none => .bad)
    | _ => .bad)
  | _ => .bad
theorem s_put (i : Nat) {x : Str} {e k : Expr} {A B : SX} {p p2 : Pos} (ha : EX X c own .s w.W e A) (hk : EX X c own .p w.W k B) (hw : own[i]? = some .o := by rfl) (hN : X.N[i]? = some x := by rfl) (hv : Vis X.env.scope x := by first | exact Or.inl rfl | exact Or.inr (Or.inl rfl) | exact Or.inr (Or.inr rfl))
    (hd : (x == ("__debug__" : Str)) = false := by decide) (hcd : (x == ("__classdict__" : Str)) = false := by decide)
    (hst : ∀ v, assign (.Subscript (.Name x p) k p2) X.env v = (do
      let ov ← holding [v] (eval (.Name x p) X.env)
      let iv ← holding [v, ov] (eval k X.env)
      standAt p2
      holding [v, ov, iv] (setItem ov iv v)
      release [v, ov, iv] []) := by intro _; rfl)
    (hs : swapsWithSole [.Subscript (.Name x p) k p2] e pos.line X.env = pure false := by rfl) (hsw : swappedStores [.Subscript (.Name x p) k p2] e X.env = pure none := by rfl)
    (h1 : (assignEach [.Subscript (.Name x p) k p2] X.env).map (·.2) = [assign (.Subscript (.Name x p) k p2) X.env] := by rfl) (ho : w.ox own := by first | exact trivial | rfl) :
    SJ X c w own own (.Assign [.Subscript (.Name x p) k p2] e pos) (sPut i A B) := by
  refine PS.weak (ps_asg ha (pg_sub (pe_var hN hv hd hcd) hk set_list hst) hs hsw h1) ?_
  rintro Dn σ H ⟨Z, ρ, φ, R0, h⟩
  refine ⟨Z, ρ, φ, R0, Post.toS (w := w) ho R0 h fun d φ1 v Z1 H1 e1 w1 r1 h1 => ?_⟩
  split at h1
  · rename_i l hdd
    have R1 := R0.more e1 w1
    obtain ⟨a, vs, hav, hH, rs, hz⟩ := R1.cell hw hdd
    refine ⟨.ref a, hav, Z1, ρ, φ1, R1, Post.toS (w := w) ho R1 h1 fun kd φ2 kv Z2 H2 e2 w2 r2 h2 => ?_⟩
    cases kd with
    | int z =>
      have R2 := R1.more e2 w2
      obtain ⟨b, us, hb, hH2, rs2, hz2⟩ := R2.cell hw hdd
      rw [hav] at hb
      cases hb
      have h2' : PostS c w own (match ixN l.length z with | some j => R.nx (ρ.set i (some (.lst (l.set j d)))) φ2 | none => .bad) Dn Z2 := h2
      split at h2'
      · rename_i j hj
        exact ⟨a, us, z, j, rfl, r2.int, hH2, by rw [rs2.length]; exact hj, h2' σ Z2 _ Sub.refl (R2.write hw hdd rfl hav (.lst (rs2.set (Rep.mono e2.z r1) j)))⟩
      · exact h2'.elim
    | _ => exact h2.elim
  · exact h1.elim
/-- x += e, ints -/
def sAug (i : Nat) (f : Int → Int → Int) (A : SX) : SS := fun ρ φ => match ρ[i]? with
  | some (some (.int z)) => (A ρ φ).toR ρ fun e φ1 => (match e with | .int k => .nx (ρ.set i (some (.int (f z k)))) φ1 | _ => .bad)
  | _ => .bad
theorem s_aug (i : Nat) {x : Str} {e : Expr} {A : SX} {op : Operator} {f : Int → Int → Int} {p : Pos} (hop : PIp X op (ipI f)) (hNd : X.N.Nodup) (ha : EX X c own .p w.W e A) (hN : X.N[i]? = some x := by rfl) (hx : Loc X.env.scope x := by first | exact Or.inl rfl | exact Or.inr rfl)
    (hf : X.fn x = true ∨ X.env.scope.names.lookup x = some .local := by first | exact .inl rfl | exact .inr rfl) (ho : w.ox own := by first | exact trivial | rfl) : SJ X c w own (own.set i .s) (.AugAssign (.Name x p) op e pos) (sAug i f A) := by
  refine PS.weak (ps_aug hNd hN hx ha hop hf) ?_
  rintro Dn σ H ⟨Z, ρ, φ, R0, h⟩
  unfold sAug at h
  split at h
  · rename_i z hz
    obtain ⟨v, hv, rv⟩ := R0.look hz
    refine ⟨v, hv, Z, ρ, φ, R0, Post.toS (w := w) ho R0 h fun d φ1 u Z1 H1 e1 w1 r1 h1 => ?_⟩
    cases d with
    | int k => exact ⟨z, k, rv.int, r1.int, h1 _ Z1 H1 Sub.refl ((R0.more e1 w1).setS (.int _))⟩
    | _ => exact h1.elim
  · exact h.elim
end

/-! ## loops -/
def forGo (T : Tg) (B : SS) : List D → En → Fd → R
  | [], ρ, φ => .nx ρ φ
  | d :: ds, ρ, φ => match T d ρ with
    | none => .bad
    | some ρ1 => match B ρ1 φ with
      | .nx ρ2 φ2 => forGo T B ds ρ2 φ2
      | .ct ρ2 φ2 => forGo T B ds ρ2 φ2
      | .bk ρ2 φ2 => .nx ρ2 φ2
      | .rt d φ2 => .rt d φ2
      | .ex x l ρ2 φ2 => .ex x l ρ2 φ2
      | .bad => .bad
def sFor (I : SA) (T : Tg) (B : SS) : SS := fun ρ φ => (I ρ φ).toR ρ fun ds φ1 => forGo T B ds ρ φ1
def whGo (C : SB) (B : SS) : Nat → En → Fd → R
  | 0, _, _ => .bad
  | n + 1, ρ, φ => (C ρ φ).toR ρ fun b φ1 => if b = true then (match B ρ φ1 with
      | .nx ρ2 φ2 => whGo C B n ρ2 φ2
      | .ct ρ2 φ2 => whGo C B n ρ2 φ2
      | .bk ρ2 φ2 => .nx ρ2 φ2
      | .rt d φ2 => .rt d φ2
      | .ex x l ρ2 φ2 => .ex x l ρ2 φ2
      | .bad => .bad) else .nx ρ φ1
section
variable {X : Cx} {c : Ct} {m : Md} {W : WX} {ox : List Ms → Prop} {lp own o1 : List Ms} {pos : Pos}
theorem s_for {tg iter : Expr} {body : List Stmt} {is : List Nat} {I : SA} {T : Tg} {B : SS} (hp : PassesOwn (model X.prog X.w) X.A X.env X.xe) (hc : X.calm = true) (hi : IJ X c own false W tg iter I) (hg : TJ X c own o1 is tg T) (hb : SJs X c ⟨m, W, ox, own⟩ o1 own body B)
    (hs : ∀ x, foldedSetIterable iter X.env x = pure x := by intro _; rfl) (ho : ox own := by first | exact trivial | rfl) : SJ X c ⟨m, W, ox, lp⟩ own own (.For tg iter body [] pos) (sFor I T B) := by
  refine PS.weak (ps_for hp hc hi hg hb hs) ?_
  rintro Dn σ H ⟨Z, ρ, φ, R0, h⟩
  refine ⟨Z, ρ, φ, R0, ?_⟩
  unfold sFor at h
  cases hI : I ρ φ with
  | bad => rw [hI] at h; exact h
  | ex y l φ1 => rw [hI] at h; exact fun cls dx Z' H' e w' r => h cls dx σ Z' H' own ho (R0.more e w') r
  | ok ds φ1 =>
    rw [hI] at h
    intro J Z1 H1 e1 w1 wk
    refine ⟨fun i k σn Hn => k = ds.length - i ∧ i ≤ ds.length ∧ ∃ Zn ρn φn, (∀ a o, Z1 a = some o → Zn a = some o) ∧ Rl c own Zn ρn φn σn Hn ∧ PostS c ⟨m, W, ox, lp⟩ own (forGo T B (ds.drop i) ρn φn) Dn Zn,
      ⟨ds.length, by simp, Nat.zero_le _, Z1, ρ, φ1, fun _ _ e => e, R0.more e1 w1, PostS.shift h e1.z⟩, ?_⟩
    rintro i k σn Hn ⟨rfl, hi, Zn, ρn, φn, kz, Rn, hP⟩
    obtain ⟨wk1, wk2⟩ := wk i Zn Hn φn ⟨kz, fun e => absurd e (by decide), Rn.ext.h⟩ Rn.wf
    by_cases hlt : i < ds.length
    · obtain ⟨d, hd⟩ : ∃ d, ds[i]? = some d := ⟨_, List.getElem?_eq_getElem hlt⟩
      obtain ⟨go, step⟩ := wk2 d hd
      rw [List.drop_eq_getElem_cons hlt] at hP
      have hdd : ds[i] = d := by
        rw [List.getElem?_eq_getElem hlt] at hd
        exact Option.some.inj hd
      rw [hdd] at hP
      refine .inr ⟨go, fun σ' H' => ∃ k', k' < ds.length - i ∧ (k' = ds.length - (i + 1) ∧ i + 1 ≤ ds.length ∧ ∃ Zn ρn φn, (∀ a o, Z1 a = some o → Zn a = some o) ∧ Rl c own Zn ρn φn σ' H' ∧ PostS c ⟨m, W, ox, lp⟩ own (forGo T B (ds.drop (i + 1)) ρn φn) Dn Zn), fun _ _ q => q, fun x Hx hx => ?_⟩
      obtain ⟨Zx, ex, wx, rx⟩ := step x Hx hx
      unfold forGo at hP
      cases hT : T d ρn with
      | none => rw [hT] at hP; exact hP.elim
      | some ρ1 =>
        rw [hT] at hP
        refine ⟨Zx, ρn, φn, d, ρ1, Rn.more ex wx, rx, hT, fun σ2 tr _ => ⟨Zx, ρ1, φn, tr Zx Hx φn Sub.refl (Rn.more ex wx), ?_⟩⟩
        have kzx : Sub Z1 Zx := Sub.trans kz ex.z
        have hP' : PostS c ⟨m, W, ox, lp⟩ own (match B ρ1 φn with
          | .nx ρ2 φ2 => forGo T B (ds.drop (i + 1)) ρ2 φ2
          | .ct ρ2 φ2 => forGo T B (ds.drop (i + 1)) ρ2 φ2
          | .bk ρ2 φ2 => .nx ρ2 φ2
          | .rt d φ2 => .rt d φ2
          | .ex x l ρ2 φ2 => .ex x l ρ2 φ2
          | .bad => .bad) Dn Zx := PostS.shift hP ex.z
        cases hB : B ρ1 φn with
        | nx ρ2 φ2 =>
          rw [hB] at hP'
          exact fun σ3 Z3 H3 k3 R3 => ⟨_, by omega, rfl, hlt, Z3, ρ2, φ2, kzx.trans k3, R3, hP'.shift k3⟩
        | ct ρ2 φ2 =>
          rw [hB] at hP'
          exact fun σ3 Z3 H3 k3 R3 => ⟨_, by omega, rfl, hlt, Z3, ρ2, φ2, kzx.trans k3, R3, hP'.shift k3⟩
        | bk ρ2 φ2 => rw [hB] at hP'; exact hP'
        | rt d φ2 => rw [hB] at hP'; exact hP'
        | ex x l ρ2 φ2 => rw [hB] at hP'; exact hP'
        | bad => rw [hB] at hP'; exact hP'
    · have hie : i = ds.length := by omega
      refine .inl ⟨wk1 hie, ?_⟩
      rw [hie, List.drop_length] at hP
      exact hP σn Zn Hn Sub.refl Rn
theorem s_while (n : Nat) {t : Expr} {body : List Stmt} {C : SB} {B : SS} (hp : PassesOwn (model X.prog X.w) X.A X.env X.xe) (ht : BX X c own W t C) (hb : SJs X c ⟨m, W, ox, own⟩ own own body B) (ho : ox own := by first | exact trivial | rfl) : SJ X c ⟨m, W, ox, lp⟩ own own (.While t body [] pos) (whGo C B n) := by
  refine PS.weak (ps_while hp ht hb) ?_
  rintro Dn σ H ⟨Z, ρ, φ, R0, h⟩
  refine ⟨fun k σn Hn => ∃ Zn ρn φn, Rl c own Zn ρn φn σn Hn ∧ PostS c ⟨m, W, ox, lp⟩ own (whGo C B k ρn φn) Dn Zn, ⟨n, Z, ρ, φ, R0, h⟩, ?_⟩
  rintro k σn Hn ⟨Zn, ρn, φn, Rn, hP⟩
  refine ⟨Zn, ρn, φn, Rn, ?_⟩
  cases k with
  | zero => exact hP.elim
  | succ k =>
    refine PostB.toS (w := ⟨m, W, ox, lp⟩) ho Rn hP fun b φ1 Z1 H1 e1 w1 h1 => ?_
    cases b with
    | false => exact h1 σn Z1 H1 Sub.refl (Rn.more e1 w1)
    | true =>
      rw [if_pos rfl]
      refine ⟨fun σ' H' => ∃ k', k' < k + 1 ∧ ∃ Zn ρn φn, Rl c own Zn ρn φn σ' H' ∧ PostS c ⟨m, W, ox, lp⟩ own (whGo C B k' ρn φn) Dn Zn, fun _ _ q => q, Z1, ρn, φ1, Rn.more e1 w1, ?_⟩
      have h1' : PostS c ⟨m, W, ox, lp⟩ own (match B ρn φ1 with
          | .nx ρ2 φ2 => whGo C B k ρ2 φ2
          | .ct ρ2 φ2 => whGo C B k ρ2 φ2
          | .bk ρ2 φ2 => .nx ρ2 φ2
          | .rt d φ2 => .rt d φ2
          | .ex x l ρ2 φ2 => .ex x l ρ2 φ2
          | .bad => .bad) Dn Z1 := h1
      cases hB : B ρn φ1 with
      | nx ρ2 φ2 =>
        rw [hB] at h1'
        exact fun σ3 Z3 H3 k3 R3 => ⟨k, Nat.lt_succ_self _, Z3, ρ2, φ2, R3, h1'.shift k3⟩
      | ct ρ2 φ2 =>
        rw [hB] at h1'
        exact fun σ3 Z3 H3 k3 R3 => ⟨k, Nat.lt_succ_self _, Z3, ρ2, φ2, R3, h1'.shift k3⟩
      | bk ρ2 φ2 => rw [hB] at h1'; exact h1'
      | rt d φ2 => rw [hB] at h1'; exact h1'
      | ex x l ρ2 φ2 => rw [hB] at h1'; exact h1'
      | bad => rw [hB] at h1'; exact h1'
end
end Pf

set_option Elab.async false
set_option linter.all false
set_option maxRecDepth 100000
set_option maxHeartbeats 4000000
namespace Pf
open PySem PySem.Spec PyProof.Rows L2
/-- a def that may raise, by its body -/
theorem okXN {P : Program} {w : World} {K : PySem.W.Frag} {mg : Str → Option Value} {base : Heap} {x qual : Str} {st : Stmt} {f : Addr} {fd : FuncData} {N ps : List Str} {k : Nat} {sp : Sp} (F : Fun K x qual st f fd) (S : FnScope N ps (defScope st)) (len : ∀ vs H Q E, sp vs H Q E → vs.length = ps.length)
    (hb : ∀ (cdv : Value) (A : Around) (outer : List Env) (s : Shared) (H : Hp) (vs : List V) (Q : VK) (E : XK), Room k (A.deeper (envOfC qual (defScope st) s.heap.objs.size f cdv)) → sp vs H Q E →
      ∃ t, PSs (cxOf (L2N.CX P w) P w K mg base N qual (defScope st) f cdv A outer s H E) (defBody st) t ∧ t { nx := fun _ H' => Q .non H', rt := Q } (L2.start N vs) H) : FnOk P w K mg base (L2N.CX P w) (k + 1) f fd ps sp := by
  obtain ⟨_, _, _, _, _, _, cdv, _, _, rfl, lk, hcd⟩ := F.ex
  exact fn_of lk hcd S len fun A outer s H vs Q E hr hsp => hb cdv A outer s H vs Q E hr hsp

/-! ## a def by its body -/
/-- what a def with this body does: n parameters, s names -/
def runB (B : SS) (n s : Nat) : Fn := fun ds φ => match B (ds.map some ++ List.replicate (s - n) none) φ with
  | .nx _ φ' => .ok .non φ'
  | .rt d φ' => .ok d φ'
  | .ex x l _ φ' => .ex x l φ'
  | _ => .bad
theorem args_start {K : PySem.W.Frag} {f : Addr} {Z H : Hp} {pm : List Bool} {vs : List V} {ds : List D} {r : Nat} (rs : RArgs K f Z H pm vs ds) {i : Nat} {d : D} (h : (ds.map some ++ List.replicate r none)[i]? = some (some d)) :
    ∃ b v, pm[i]? = some b ∧ (vs.map some ++ List.replicate r none)[i]? = some (some v) ∧ Res (Wm b) K f H Z H v d := by
  obtain ⟨hl1, hl2⟩ := rs.lens
  by_cases hi : i < ds.length
  · rw [List.getElem?_append_left (by simpa using hi), List.getElem?_map] at h
    cases e : ds[i]? with
    | none => rw [e] at h; cases h
    | some x =>
      rw [e] at h
      cases h
      obtain ⟨b, y, h0, h1, h2⟩ := rs.at_ e
      refine ⟨b, y, h0, ?_, h2⟩
      rw [List.getElem?_append_left (by rw [List.length_map]; omega), List.getElem?_map, h1] <;> rfl
  · rw [List.getElem?_append_right (by simpa using hi), List.getElem?_replicate] at h
    split at h <;> cases h
/-- how the slots stand at the start -/
def ownS (pm : List Bool) (n : Nat) : List Ms := pm.map (fun b => if b = true then Ms.p else .s) ++ List.replicate (n - pm.length) .s
theorem ownS_get {pm : List Bool} {n i : Nat} {x : Ms} (h : (ownS pm n)[i]? = some x) : (∃ b, pm[i]? = some b ∧ x = if b = true then Ms.p else .s) ∨ (pm.length ≤ i ∧ x = .s) := by
  unfold ownS at h
  by_cases hi : i < pm.length
  · rw [List.getElem?_append_left (by simpa using hi), List.getElem?_map] at h
    cases e : pm[i]? with
    | none => rw [e] at h; cases h
    | some b => rw [e] at h; cases h; exact .inl ⟨b, rfl, rfl⟩
  · rw [List.getElem?_append_right (by simpa using hi), List.getElem?_replicate] at h
    split at h
    · cases h; exact .inr ⟨by omega, rfl⟩
    · cases h
theorem rep_s {n i : Nat} {x : Ms} (hx : x ≠ .s) : (List.replicate n Ms.s)[i]? ≠ some x := by
  rw [List.getElem?_replicate]
  split
  · intro h; exact hx (Option.some.inj h).symm
  · intro h; cases h
theorem ownS_no {pm : List Bool} {n i : Nat} : (ownS pm n)[i]? ≠ some .o := by
  intro h
  rcases ownS_get h with ⟨b, _, e⟩ | ⟨_, e⟩
  · cases b <;> cases e
  · cases e
section
variable {P : Program} {w : World} {K : PySem.W.Frag} {mg : Str → Option Value} {base : Heap}
theorem fn_sem {cls : Str → Option (Addr × List Str)} {x qual : Str} {st : Stmt} {f : Addr} {fd : FuncData} {N ps : List Str} {k : Nat} (F : Fun K x qual st f fd) (S : FnScope N ps (defScope st)) (pm : List Bool) (hpm : pm.length = ps.length) (m : Md) (B : SS) {on : List Ms}
    (D : ∀ (cdv : Value) (A : Around) (outer : List Env) (s : Shared) (H : Hp) (E : XK) (cf : Addr) (cZ cH : Hp) (s0 : L2.St) (r0 : En), Room k (A.deeper (envOfC qual (defScope st) s.heap.objs.size f cdv)) →
      SJs (cxOf (L2N.CX P w) P w K mg base N qual (defScope st) f cdv A outer s H E) ⟨K, cf, cZ, cH, cls, s0, r0⟩ ⟨m, fun cls d _ H => E cls d H, fun _ => True, []⟩ (ownS pm N.length) on (defBody st) B) :
    FnOk P w K mg base (L2N.CX P w) (k + 1) f fd ps (spF cls K pm m (runB B ps.length N.length)) := by
  refine okXN F S (fun vs H Q E h => ?_) (fun cdv A outer s H vs Q E hr h => ?_)
  · obtain ⟨f, Z, ds, φ, _, rs, _⟩ := h
    rw [rs.lens.1, hpm]
  · obtain ⟨f, Z, ds, φ, wf, rs, h⟩ := h
    have hl : ds.length = ps.length := by rw [rs.lens.2, hpm]
    have hv : vs.length = ps.length := by rw [rs.lens.1, hpm]
    have hst : L2.start N vs = vs.map some ++ List.replicate (N.length - ps.length) none := by
      unfold L2.start
      rw [hv]
    refine ⟨_, D cdv A outer s H E f Z H (L2.start N vs) (ds.map some ++ List.replicate (N.length - ps.length) none) hr, Z, ds.map some ++ List.replicate (N.length - ps.length) none, φ, ⟨wf, Ext.refl, ?_, fun i d h1 _ h3 => ?_, fun i d _ h2 => absurd h2 ownS_no, fun i j a d e _ h1 => absurd h1 ownS_no, fun i d h1 h2 => ⟨h1, rfl⟩, fun i d h1 h2 => ?_⟩, ?_⟩
    · rw [hst]
      simp only [List.length_append, List.length_map, List.length_replicate]
      rw [hv, hl]
    · rw [hst]
      obtain ⟨b, v, e1, e2, r⟩ := args_start rs h1
      refine ⟨v, e2, ?_⟩
      cases b with
      | false => exact r
      | true =>
        refine absurd ?_ h3
        unfold ownS
        rw [List.getElem?_append_left (by rw [List.length_map]; exact (List.getElem?_eq_some_iff.mp e1).1), List.getElem?_map, e1]
        rfl
    · rw [hst]
      obtain ⟨b, v, e1, e2, r⟩ := args_start rs h1
      refine ⟨v, e2, ?_⟩
      cases b with
      | false => exact .inl r
      | true => exact r
    · unfold runB at h
      cases e : B (ds.map some ++ List.replicate (N.length - ps.length) none) φ with
      | nx ρ φ' => rw [e] at h; exact fun σ Z' H' _ R0 => h .non Z' H' R0.ext R0.wf (Res.of_flat .non rfl)
      | rt d φ' => rw [e] at h; exact fun v Z' H' e' w' r => h v Z' H' e' w' r
      | ex y l ρ φ' => rw [e] at h; exact fun cl dx σ Z' H' ow _ R0 r => h cl dx Z' H' R0.ext R0.wf r
      | bk ρ φ' => rw [e] at h; exact h.elim
      | ct ρ φ' => rw [e] at h; exact h.elim
      | bad => rw [e] at h; exact h.elim
theorem cal_of {cls : Str → Option (Addr × List Str)} {x : Str} {k : Nat} {pm : List Bool} {m : Md} {F : Fn} {f : Addr} {fd : FuncData} {ps : List Str} (h1 : mg x = some (.ref f)) (h2 : PySem.W.keepIn K (.ref f) = true) (h3 : Binds K fd ps []) (h4 : FnOk P w K mg base (L2N.CX P w) k f fd ps (spF cls K pm m F)) :
    Cal P w K mg base cls x k pm m F := ⟨⟨f, fd, ps, h1, h2, h3, h4⟩⟩
end

/-- a statement's reading where what is fixed is chosen later -/
theorem PSs.later {X : Cx} {sts : List Stmt} {ι : Type} {t : ι → TS} (h : ∀ i, PSs X sts (t i)) : PSs X sts (fun D σ H => ∃ i, t i D σ H) := ⟨fun pins s σ H D I ⟨i, q⟩ => (h i).run pins s σ H D I q⟩

/-! ## the feed -/
def Fd.step (φ : Fd) : Fd :=
  if φ.told = 0 ∧ φ.pos < φ.cells.length then
    let cell : Int := ((φ.cells.getD φ.pos.toNat 0).natAbs : Nat)
    if cell ≥ 1000000000000000000 then { φ with pos := φ.pos + 1, told := cell }
    else { φ with pos := φ.pos + 1, st := (φ.st * 48271 + cell * 69621 + (φ.pos + 1)) % 2147483647 }
  else φ
/-- a drawn number, and the feed behind it -/
def Fd.draw (φ : Fd) (many : Int) : Int × Fd :=
  let ψ := φ.step
  if ψ.told > 0 then (ψ.told % many, { ψ with told := ψ.told / many })
  else
    let s : Int := (ψ.st * 16807 + 12345) % 2147483647
    ((s * s + s) % 2147483629 / 11 % many, { ψ with st := s })
def drawF : Fn := fun ds φ => match ds with
  | [.feed, .int m] => if (0 < m ∧ m < 1073741824) ∧ 0 ≤ φ.told then .ok (.int (φ.draw m).1) (φ.draw m).2 else .bad
  | _ => .bad
theorem Fd.step_ok {φ : Fd} (h : φ.Ok) : φ.step.Ok := by
  obtain ⟨n, a0, a1, t0, s0, s1⟩ := h
  unfold Fd.step
  split
  · rename_i hc
    dsimp only
    split
    · exact ⟨n, by show 0 ≤ φ.pos + 1; omega, by show φ.pos + 1 ≤ (φ.cells.length : Int); omega, by show (0 : Int) ≤ ((φ.cells.getD φ.pos.toNat 0).natAbs : Nat); omega, s0, s1⟩
    · exact ⟨n, by show 0 ≤ φ.pos + 1; omega, by show φ.pos + 1 ≤ (φ.cells.length : Int); omega, t0, Int.emod_nonneg _ (by decide), Int.emod_lt_of_pos _ (by decide)⟩
  · exact ⟨n, a0, a1, t0, s0, s1⟩
theorem Fd.draw_ok {φ : Fd} (h : φ.Ok) {m : Int} (hm : 0 < m) : (φ.draw m).2.Ok := by
  obtain ⟨n, a0, a1, t0, s0, s1⟩ := Fd.step_ok h
  unfold Fd.draw
  dsimp only
  split
  · exact ⟨n, a0, a1, Int.ediv_nonneg t0 (Int.le_of_lt hm), s0, s1⟩
  · exact ⟨n, a0, a1, t0, Int.emod_nonneg _ (by decide), Int.emod_lt_of_pos _ (by decide)⟩
theorem Fd.draw_range (φ : Fd) {m : Int} (hm : 0 < m) : 0 ≤ (φ.draw m).1 ∧ (φ.draw m).1 < m := by
  unfold Fd.draw
  dsimp only
  split
  · exact ⟨Int.emod_nonneg _ (by omega), Int.emod_lt_of_pos _ hm⟩
  · exact ⟨Int.emod_nonneg _ (by omega), Int.emod_lt_of_pos _ hm⟩
/-! ## the law's own def -/
def spFeed (K : PySem.W.Frag) : Sp := fun vs H Q _ => ∃ (a : Addr) (ns : List Int), vs = [.ref a] ∧ SqL K H a (ns.map V.int) ∧
  ∀ s p, H s = none → H p = none → p ≠ s → Q (.ref p) (upd (upd H s (.lst (ns.map V.int))) p (.lst [.ref s, .int 0, .int 0, .int 1]))
def spLaw (K : PySem.W.Frag) : Sp := fun vs H Q _ => ∃ (a : Addr) (ns : List Int), vs = [.ref a] ∧ SqL K H a (ns.map V.int) ∧ ns.length ≤ 63 ∧ ∀ H', Q (.bl true) H'
section
variable {P : Program} {w : World} {K : PySem.W.Frag} {mg : Str → Option Value} {base : Heap}
/-- the law's body behind its first row, feed = _law_feed(script): j is feed's slot -/
theorem law_sem {cls : Str → Option (Addr × List Str)} {qual x : Str} {st st0 : Stmt} {rest : List Stmt} {f : Addr} {fd : FuncData} {N : List Str} {k j : Nat} (F : Fun K x qual st f fd) (S : FnScope N ["script"] (defScope st)) (m : Md) (B : SS) {on : List Ms}
    (hb : defBody st = st0 :: rest) (hj : 0 < j) (hjn : j < N.length)
    (D0 : ∀ (cdv : Value) (A : Around) (outer : List Env) (s : Shared) (H : Hp) (E : XK), Room k (A.deeper (envOfC qual (defScope st) s.heap.objs.size f cdv)) →
      PS (cxOf (L2N.CX P w) P w K mg base N qual (defScope st) f cdv A outer s H E) st0 (tAsg (tCall (spFeed K) [] E0 (tCons (tVar 0) tNil)) (gName j)))
    (D : ∀ (cdv : Value) (A : Around) (outer : List Env) (s : Shared) (H : Hp) (E : XK) (cf : Addr) (cZ cH : Hp) (s0 : L2.St) (r0 : En), Room k (A.deeper (envOfC qual (defScope st) s.heap.objs.size f cdv)) →
      SJs (cxOf (L2N.CX P w) P w K mg base N qual (defScope st) f cdv A outer s H E) ⟨K, cf, cZ, cH, cls, s0, r0⟩ ⟨m, fun cls d _ H => E cls d H, fun _ => True, []⟩ (List.replicate N.length .s) on rest B)
    (hB : ∀ φ : Fd, φ.Ok → ∃ φ', B ((List.replicate N.length none).set j (some .feed)) φ = .rt (.bl true) φ') :
    FnOk P w K mg base (L2N.CX P w) (k + 1) f fd ["script"] (spLaw K) := by
  refine okXN F S (fun vs H Q E h => ?_) (fun cdv A outer s H vs Q E hr h => ?_)
  · obtain ⟨a, ns, rfl, _⟩ := h
    rfl
  · obtain ⟨a, ns, rfl, hs, hl, q⟩ := h
    have D1 := PSs.later (ι := Addr × Hp × Hp) fun i => D cdv A outer s H E i.1 i.2.1 i.2.2 [] [] hr
    refine ⟨_, by rw [hb]; exact pss_cons (D0 cdv A outer s H E hr) D1, ?_⟩
    have h0 : (L2.start N [V.ref a])[0]? = some (some (.ref a)) := rfl
    refine ⟨.ref a, h0, a, ns, rfl, hs, fun t p ht hp hne => ?_⟩
    have hpt : (upd (upd H t (.lst (ns.map V.int))) p (.lst [.ref t, .int 0, .int 0, .int 1])) p = some (.lst [.ref t, .int 0, .int 0, .int 1]) := upd_same
    have htt : (upd (upd H t (.lst (ns.map V.int))) p (.lst [.ref t, .int 0, .int 0, .int 1])) t = some (.lst (ns.map V.int)) := by
      rw [upd_ne (Ne.symm hne)]
      exact upd_same
    generalize upd (upd H t (.lst (ns.map V.int))) p (.lst [.ref t, .int 0, .int 0, .int 1]) = H1 at hpt htt
    have ok0 : Fd.Ok ⟨ns, 0, 0, 1⟩ := ⟨hl, Int.le_refl _, Int.natCast_nonneg _, Int.le_refl _, by show (0 : Int) ≤ 1; decide, by show (1 : Int) < 2147483647; decide⟩
    have wf : Wf K p (fun b => if b = t then some (.lst (ns.map V.int)) else none) H1 ⟨ns, 0, 0, 1⟩ := by
      refine ⟨fun b o e => ?_, if_neg hne, ⟨(t, _), .inr ⟨if_pos rfl, rfl⟩, hpt⟩, fun _ => ok0⟩
      by_cases hb : b = t
      · rw [if_pos hb] at e; cases e; rw [hb]; exact htt
      · rw [if_neg hb] at e; cases e
    obtain ⟨φ', hφ⟩ := hB ⟨ns, 0, 0, 1⟩ ok0
    refine ⟨(p, (fun b => if b = t then some (.lst (ns.map V.int)) else none), H1), (fun b => if b = t then some (.lst (ns.map V.int)) else none), (List.replicate N.length (none : Option Pf.D)).set j (some .feed), ⟨ns, 0, 0, 1⟩, ⟨wf, Ext.refl, ?_, fun i d h1 _ _ => ?_, fun i d _ h2 => absurd h2 (rep_s (by decide)), fun i j a d e _ h1 => absurd h1 (rep_s (by decide)), fun i d _ h2 => ?_, fun i d _ h2 => absurd h2 (rep_s (by decide))⟩, ?_⟩
    · unfold L2.start
      simp only [List.length_set, List.length_append, List.length_map, List.length_replicate, List.length_cons, List.length_nil]
      omega
    · rcases get_set h1 with ⟨rfl, e⟩ | ⟨hi, e⟩
      · cases e
        refine ⟨.ref p, List.getElem?_set_self ?_, .feed⟩
        unfold L2.start
        simp only [List.length_append, List.length_map, List.length_replicate, List.length_cons, List.length_nil]
        omega
      · rw [List.getElem?_replicate] at e
        split at e <;> cases e
    · rcases h2 with h2 | h2
      · exact absurd h2 (rep_s (by decide))
      · exact absurd h2 (rep_s (by decide))
    · rw [hφ]
      intro v Z' H' _ _ r
      have hv : v = .bl true := Res.bl r
      rw [hv]
      exact q H'
end
section
variable {X : Cx}
/-- xs[i] by values, as a += reads it -/
theorem get_lst : PGet X (fun o i H Q => ∃ p xs k v, o = .ref p ∧ i = .int k ∧ 0 ≤ k ∧ k < 2 ^ 63 ∧ SqL X.K H p xs ∧ xs[k.toNat]? = some v ∧ Q v H) := by
  intro pins s σ H o i ov iv Q I r1 r2 h
  obtain ⟨p, xs, k, v, rfl, rfl, h0, h1, hq, he, q⟩ := h
  cases r1
  obtain ⟨t, rfl⟩ := r2
  obtain ⟨its, r, pl, hz⟩ := I.list hq
  obtain ⟨u, eu, ru⟩ := r.get he
  exact wpAny_getItem_list pl.isList h0 h1 (by simpa using eu) ⟨v, H, I, ru, q⟩
end
end Pf

set_option Elab.async false
set_option linter.all false
set_option maxRecDepth 100000
set_option maxHeartbeats 4000000
namespace Pf
open PySem PySem.Spec PyProof.Rows L2

/-! ## drawing from the feed: the body of the law's own draw, read once -/
def ixf (K : PySem.W.Frag) (k : Int) : TE := tOp (rIxL K) (tVar 0) (tC (V.int k))
def rgI : R2 := rI0 fun i j => V.int (i + j)
def rmI : R2 := rI CMul fun i j => V.int (i * j)
def reI : R2 := rI (fun _ j => 0 < j) fun i j => V.int (i % j)
def rdI : R2 := rI CDiv fun i j => V.int (i / j)
def rIntC : List V → Hp → VK → Prop := fun xs H Q => (∃ i, xs = [V.int i] ∧ Q (V.int i) H) ∨ ∃ k, xs = [V.bl k] ∧ Q (V.int (if k = true then 1 else 0)) H
def tInt (t : TE) : TE := tCB rIntC (tCons t tNil)
def rGet (K : PySem.W.Frag) : V → V → Hp → VK → Prop := fun o i H Q => ∃ p xs k v, o = .ref p ∧ i = .int k ∧ 0 ≤ k ∧ k < 2 ^ 63 ∧ SqL K H p xs ∧ xs[k.toNat]? = some v ∧ Q v H
def tDrawA (K : PySem.W.Frag) : TS := tIfS (tAnd (tTest (tOp rEq (ixf K 2) (tC (.int 0)))) (tTest (tOp (rI0 fun i j => V.bl (decide (i < j))) (ixf K 1) (tCB (fun xs H Q => ∃ p ys, xs = [.ref p] ∧ (SqL K H p ys ∨ SqT K H p ys) ∧ Q (.int ys.length) H) (tCons (ixf K 0) tNil)))))
  (tSeq (tAsg (tCB (fun xs H Q => ∃ i, xs = [.int i] ∧ Q (.int (if i < 0 then -i else i)) H) (tCons (tInt (tOp (rIxL K) (ixf K 0) (ixf K 1))) tNil)) (gName 2))
    (tSeq (tAugS (tVar 0) (tC (.int 1)) (tC (.int 1)) (rGet K) (ipI fun i j => i + j) rSetL)
      (tIfS (tTest (tOp (rI0 fun i j => V.bl (decide (j ≤ i))) (tVar 2) (tOp (rI CPow fun i j => V.int (i ^ j.toNat)) (tC (.int 10)) (tC (.int 18)))))
        (tAsg (tVar 2) (L2.gSub (tVar 0) (tC (.int 2)) rSetL))
        (tAsg (tOp reI (tInt (tOp rgI (tOp rgI (tOp rmI (ixf K 3) (tC (.int 48271))) (tOp rmI (tVar 2) (tC (.int 69621)))) (ixf K 1))) (tC (.int 2147483647))) (L2.gSub (tVar 0) (tC (.int 3)) rSetL)))))
  tNext
def tDrawB (K : PySem.W.Frag) : TS := tSeq (tIfS (tTest (tOp (rI0 fun i j => V.bl (decide (j < i))) (ixf K 2) (tC (.int 0))))
    (tSeq (tAsg (tOp reI (tInt (ixf K 2)) (tVar 1)) (gName 3)) (tSeq (tAsg (tOp rdI (ixf K 2) (tVar 1)) (L2.gSub (tVar 0) (tC (.int 2)) rSetL)) (tRet (tVar 3)))) tNext)
  (tSeq (tAsg (tOp reI (tInt (tOp rgI (tOp rmI (ixf K 3) (tC (.int 16807))) (tC (.int 12345)))) (tC (.int 2147483647))) (L2.gSub (tVar 0) (tC (.int 3)) rSetL))
    (tSeq (tAsg (tOp reI (tInt (tOp rgI (tOp rmI (ixf K 3) (ixf K 3)) (ixf K 3))) (tC (.int 2147483629))) (gName 4))
      (tRet (tOp reI (tOp rdI (tVar 4) (tC (.int 11))) (tVar 1)))))
section
variable {K : PySem.W.Frag} {f s : Addr} {σ : L2.St} {H : Hp} {xs : List V} {Q : VK}
theorem ixr {k : Nat} {v : V} (h0 : σ[0]? = some (some (.ref f))) (hf : H f = some (.lst xs)) (hx : xs[k]? = some v) (q : Q v H) : ixf K (k : Int) σ H Q :=
  ⟨_, h0, f, xs, k, v, rfl, rfl, SqL.of hf, atI_nat hx, q⟩
theorem tInt_of {t : TE} {i : Int} (h : t σ H fun v H' => v = .int i ∧ Q (.int i) H') (mono : ∀ Q Q' : VK, (∀ v H, Q v H → Q' v H) → t σ H Q → t σ H Q') : tInt t σ H Q :=
  mono _ _ (fun v H' ⟨e, q⟩ => .inl ⟨i, by rw [e], q⟩) h
theorem ifT {b : Bool} {A B : Prop} (hb : b = true) (h : A) : if b = true then A else B := by
  rw [if_pos hb]
  exact h
theorem ifF {b : Bool} {A B : Prop} (hb : b = false) (h : B) : if b = true then A else B := by
  rw [if_neg (by rw [hb]; decide)]
  exact h
/-- the feed's cell as the record has it -/
abbrev fdL (s : Addr) (φ : Fd) : List V := [.ref s, .int φ.pos, .int φ.told, .int φ.st]
theorem pow18 : (10 : Int) ^ (18 : Int).toNat = 1000000000000000000 := by decide
/-- the first half: a cell of the script comes in -/
theorem drawA_read {φ : Fd} {m : Int} {D : Ends} (ok : φ.Ok) (hs : H s = some (.lst (φ.cells.map V.int))) (hf : H f = some (.lst (fdL s φ))) (hsf : s ≠ f)
    (q : ∀ y, D.nx [some (.ref f), some (.int m), y, none, none] (upd H f (.lst (fdL s φ.step)))) : tDrawA K D [some (.ref f), some (.int m), none, none, none] H := by
  obtain ⟨n, a0, a1, t0, s0, s1⟩ := ok
  have hself : upd H f (.lst (fdL s φ)) = H := by
    funext b
    by_cases hb : b = f
    · rw [hb, upd_same, hf]
    · rw [upd_ne hb]
  show ixf K 2 _ _ _
  refine ixr (k := 2) rfl hf rfl ⟨rfl, ?_⟩
  refine ⟨_, rfl, ?_⟩
  by_cases ht : φ.told = 0
  · refine ifT (by rw [ht]; decide) ?_
    refine ixr (k := 1) rfl hf rfl (ixr (k := 0) rfl hf rfl ⟨s, _, rfl, .inl (SqL.of hs), _, _, rfl, rfl, _, rfl, ?_⟩)
    rw [List.length_map]
    by_cases hp : φ.pos < φ.cells.length
    · refine ifT (decide_eq_true hp) ?_
      obtain ⟨j, hj⟩ : ∃ j : Nat, φ.pos = j := ⟨φ.pos.toNat, by omega⟩
      have hjl : j < φ.cells.length := by omega
      have hget : φ.cells.getD φ.pos.toNat 0 = φ.cells[j] := by
        rw [hj, Int.toNat_natCast, List.getD_eq_getElem?_getD, List.getElem?_eq_getElem hjl] <;> rfl
      have hst : φ.step = if ((φ.cells[j].natAbs : Nat) : Int) ≥ 1000000000000000000 then { φ with pos := φ.pos + 1, told := ((φ.cells[j].natAbs : Nat) : Int) } else { φ with pos := φ.pos + 1, st := (φ.st * 48271 + ((φ.cells[j].natAbs : Nat) : Int) * 69621 + (φ.pos + 1)) % 2147483647 } := by
        unfold Fd.step
        rw [if_pos ⟨ht, hp⟩]
        dsimp only
        rw [hget]
      have habs : (if φ.cells[j] < 0 then -φ.cells[j] else φ.cells[j]) = ((φ.cells[j].natAbs : Nat) : Int) := by split <;> omega
      refine ixr (k := 0) rfl hf rfl (ixr (k := 1) rfl hf rfl ⟨s, _, φ.pos, .int φ.cells[j], rfl, rfl, SqL.of hs, ?_, .inl ⟨_, rfl, ⟨_, rfl, ?_⟩⟩⟩)
      · rw [hj]
        exact atI_nat (by rw [List.getElem?_map, List.getElem?_eq_getElem hjl] <;> rfl)
      · rw [habs]
        generalize ((φ.cells[j].natAbs : Nat) : Int) = cell at hst
        -- feed[1] += 1
        refine ⟨.ref f, rfl, f, _, 1, .int φ.pos, rfl, rfl, by decide, by decide, SqL.of hf, rfl, _, _, rfl, rfl, f, fdL s φ, 1, 1, rfl, rfl, hf, rfl, ?_⟩
        have hf1 : upd H f (.lst ((fdL s φ).set 1 (.int (φ.pos + 1)))) f = some (.lst [.ref s, .int (φ.pos + 1), .int φ.told, .int φ.st]) := upd_same
        refine ⟨.int cell, rfl, _, _, rfl, rfl, ⟨by decide, by decide, by decide⟩, _, _, rfl, rfl, _, rfl, ?_⟩
        rw [pow18]
        by_cases hc : (1000000000000000000 : Int) ≤ cell
        · refine ifT (decide_eq_true hc) ?_
          rw [if_pos hc] at hst
          refine ⟨.int cell, rfl, .ref f, rfl, f, _, 2, 2, rfl, rfl, hf1, rfl, ?_⟩
          rw [upd_upd]
          have := q (some (.int cell))
          rw [hst] at this
          exact this
        · refine ifF (decide_eq_false hc) ?_
          rw [if_neg hc] at hst
          refine ixr (k := 3) rfl hf1 rfl ⟨_, _, rfl, rfl, .inl (by omega), .int cell, rfl, _, _, rfl, rfl, .inr (by omega), _, _, rfl, rfl, ?_⟩
          refine ixr (k := 1) rfl hf1 rfl ⟨_, _, rfl, rfl, .inl ⟨_, rfl, _, _, rfl, rfl, (by decide : (0 : Int) < 2147483647), ?_⟩⟩
          refine ⟨.ref f, rfl, f, _, 3, 3, rfl, rfl, hf1, rfl, ?_⟩
          rw [upd_upd]
          have := q (some (.int cell))
          rw [hst] at this
          exact this
    · refine ifF (decide_eq_false hp) ?_
      have hst : φ.step = φ := by unfold Fd.step; rw [if_neg fun h => hp h.2]
      have := q none
      rw [hst, hself] at this
      exact this
  · have e : decide (V.int φ.told = V.int 0) = false := decide_eq_false fun h => ht (V.int.inj h)
    refine ifF e ?_
    have hst : φ.step = φ := by unfold Fd.step; rw [if_neg fun h => ht h.1]
    have := q none
    rw [hst, hself] at this
    exact this
/-- the second half: a number is drawn -/
theorem drawB_read {φ : Fd} {m : Int} {D : Ends} {y : Option V} (ok : φ.Ok) (hm : 0 < m) (hm2 : m < 1073741824) (hf : H f = some (.lst (fdL s φ)))
    (q : D.rt (.int (if φ.told > 0 then φ.told % m else ((φ.st * 16807 + 12345) % 2147483647 * ((φ.st * 16807 + 12345) % 2147483647) + (φ.st * 16807 + 12345) % 2147483647) % 2147483629 / 11 % m))
      (upd H f (.lst (fdL s (if φ.told > 0 then { φ with told := φ.told / m } else { φ with st := (φ.st * 16807 + 12345) % 2147483647 }))))) : tDrawB K D [some (.ref f), some (.int m), y, none, none] H := by
  obtain ⟨n, a0, a1, t0, s0, s1⟩ := ok
  show ixf K 2 _ _ _
  refine ixr (k := 2) rfl hf rfl ⟨_, _, rfl, rfl, _, rfl, ?_⟩
  by_cases ht : φ.told > 0
  · refine ifT (decide_eq_true ht) ?_
    rw [if_pos ht, if_pos ht] at q
    refine ixr (k := 2) rfl hf rfl (.inl ⟨_, rfl, .int m, rfl, _, _, rfl, rfl, hm, ?_⟩)
    refine ixr (k := 2) rfl hf rfl ⟨.int m, rfl, _, _, rfl, rfl, ⟨hm, hm2⟩, .ref f, rfl, f, _, 2, 2, rfl, rfl, hf, rfl, _, rfl, q⟩
  · refine ifF (decide_eq_false ht) ?_
    rw [if_neg ht, if_neg ht] at q
    refine ixr (k := 3) rfl hf rfl ⟨_, _, rfl, rfl, .inl (by omega), _, _, rfl, rfl, .inl ⟨_, rfl, _, _, rfl, rfl, (by decide : (0 : Int) < 2147483647), ?_⟩⟩
    have b0 : 0 ≤ (φ.st * 16807 + 12345) % 2147483647 := Int.emod_nonneg _ (by decide)
    have b1 : (φ.st * 16807 + 12345) % 2147483647 < 2147483647 := Int.emod_lt_of_pos _ (by decide)
    refine ⟨.ref f, rfl, f, _, 3, 3, rfl, rfl, hf, rfl, ?_⟩
    have hf1 : upd H f (.lst ((fdL s φ).set 3 (.int ((φ.st * 16807 + 12345) % 2147483647)))) f = some (.lst [.ref s, .int φ.pos, .int φ.told, .int ((φ.st * 16807 + 12345) % 2147483647)]) := upd_same
    refine ixr (k := 3) rfl hf1 rfl (ixr (k := 3) rfl hf1 rfl ⟨_, _, rfl, rfl, .inl (by omega), ?_⟩)
    refine ixr (k := 3) rfl hf1 rfl ⟨_, _, rfl, rfl, .inl ⟨_, rfl, _, _, rfl, rfl, (by decide : (0 : Int) < 2147483629), ?_⟩⟩
    exact ⟨_, rfl, _, _, rfl, rfl, ⟨by decide, by decide⟩, .int m, rfl, _, _, rfl, rfl, hm, q⟩
/-- the whole body keeps the promise -/
theorem draw_read {cls : Str → Option (Addr × List Str)} {N : List Str} {vs : List V} {E : XK} (hN : N.length = 5) (h : spF cls K [false, false] .s drawF vs H Q E) : tSeq (tDrawA K) (tDrawB K) { nx := fun _ H' => Q .non H', rt := Q } (L2.start N vs) H := by
  obtain ⟨f, Z, ds, φ, wf, rs, h⟩ := h
  obtain ⟨hl1, hl2⟩ := rs.lens
  match ds, vs, hl1, hl2, rs, h with
  | [d, e], [x, y], _, _, rs, h =>
    cases d with
    | feed =>
      cases e with
      | int m =>
        have h' : (match (if (0 < m ∧ m < 1073741824) ∧ 0 ≤ φ.told then O.ok (.int (φ.draw m).1) (φ.draw m).2 else .bad : O D) with
          | .ok d φ' => ∀ v Z' H', Ext f Z H Z' H' → Wf K f Z' H' φ' → Res .s K f H Z' H' v d → Q v H'
          | .ex x l φ' => ∀ cl dx Z' H', Ext f Z H Z' H' → Wf K f Z' H' φ' → XRep ⟨K, f, Z, H, cls, [], []⟩ Z' H' x l cl dx → E cl dx H'
          | .bad => False) := h
        by_cases hmm : (0 < m ∧ m < 1073741824) ∧ 0 ≤ φ.told
        · rw [if_pos hmm] at h'
          obtain ⟨hm, htd⟩ := hmm
          · obtain ⟨r1, r2, _⟩ := rs
            · obtain rfl := Res.feed (m := .s) (H0 := H) (H := H) r1
              obtain rfl := Res.int (m := .s) (H0 := H) (H := H) r2
              have wok := wf.ok htd
              obtain ⟨⟨s, so⟩, hs, hf⟩ := wf.feed
              rcases hs with ⟨hs, _⟩ | ⟨hs, hso⟩
              · exact absurd hs (by omega)
              simp only at hs hso hf
              rw [hso] at hf
              have hsf : s ≠ f := fun e => by rw [e, wf.zf] at hs; cases hs
              have hst : L2.start N [.ref f, .int m] = [some (.ref f), some (.int m), none, none, none] := by
                unfold L2.start
                rw [hN] <;> rfl
              rw [hst]
              refine drawA_read wok (wf.sub _ _ hs) hf hsf fun y => ?_
              refine drawB_read (φ := φ.step) (Fd.step_ok wok) hm.1 hm.2 upd_same ?_
              rw [upd_upd]
              have e1 : (φ.draw m).1 = (if φ.step.told > 0 then φ.step.told % m else ((φ.step.st * 16807 + 12345) % 2147483647 * ((φ.step.st * 16807 + 12345) % 2147483647) + (φ.step.st * 16807 + 12345) % 2147483647) % 2147483629 / 11 % m) := by
                unfold Fd.draw
                dsimp only
                split <;> rfl
              have e2 : (φ.draw m).2 = (if φ.step.told > 0 then { φ.step with told := φ.step.told / m } else { φ.step with st := (φ.step.st * 16807 + 12345) % 2147483647 }) := by
                unfold Fd.draw
                dsimp only
                split <;> rfl
              have hcells : (φ.draw m).2.cells = φ.cells := by
                rw [e2]
                have : φ.step.cells = φ.cells := by
                  unfold Fd.step
                  split
                  · dsimp only; split <;> rfl
                  · rfl
                split <;> exact this
              rw [← e1, ← e2]
              have ok2 := Fd.draw_ok wok hm.1
              have up : ∀ b u, b ≠ f → H b = some u → upd H f (.lst (fdL s (φ.draw m).2)) b = some u := fun b u hb q => by rw [upd_ne hb]; exact q
              refine h' _ Z _ ⟨fun _ _ q => q, fun b u hb q => up b u hb q, fun b q => ?_, fun _ _ q => q, fun o e => ?_⟩ ⟨fun b u q => up b u (fun e => by rw [e, wf.zf] at q; cases q) (wf.sub b u q), wf.zf, ⟨(s, _), .inr ⟨by rw [hcells]; exact hs, rfl⟩, upd_same⟩, fun _ => ok2⟩ (Rep.int _)
              · by_cases hb : b = f
                · rw [hb, upd_same]; simp
                · rw [upd_ne hb]; exact q
              · rw [hf] at e
                cases e
                exact ⟨_, upd_same, .inr ⟨_, _, _, rfl, rfl⟩⟩
        · rw [if_neg hmm] at h'
          exact h'.elim
      | _ => exact h.elim
    | _ => exact h.elim
end
end Pf

set_option Elab.async false
set_option linter.all false
set_option maxRecDepth 100000
set_option maxHeartbeats 4000000
namespace Pf
open PySem PySem.Spec PyProof.Rows L2

/-! ## a op b op c -/
def eCh (g g' : D → D → Option D) (A B C : SX) : SX := fun ρ φ => (A ρ φ).bind fun d φ1 => (B ρ φ1).bind fun e φ2 => match g d e with
  | some (.bl true) => (C ρ φ2).bind fun z φ3 => ofO (g' e z) φ3
  | some (.bl false) => .ok (.bl false) φ2
  | _ => .bad
section
variable {X : Cx} {c : Ct} {own : List Ms} {m : Md} {W : WX} {pos : Pos} {a b d : Expr} {A B C : SX}
theorem ch_core {r r' : R2} {g g' : D → D → Option D} (hg : OpG r .o c g) (hg' : OpG r' .o c g') {σ : L2.St} {H : Hp} {Q : VK} (h : tE c own .o W (eCh g g' A B C) σ H Q) :
    tChain r r' (tE c own .p W A) (tE c own .p W B) (tE c own .p W C) σ H Q := by
  obtain ⟨Z, ρ, φ, R, h⟩ := h
  refine ⟨Z, ρ, φ, R, Post.bindE h fun d φ1 x Z1 H1 e1 w1 r1 h1 => ?_⟩
  refine ⟨Z1, ρ, φ1, R.more e1 w1, Post.bindE h1 fun e φ2 y Z2 H2 e2 w2 r2 h2 => ?_⟩
  have r2' : Res .p c.K c.f H2 Z2 H2 y e := r2
  have R2 := (R.more e1 w1).more e2 w2
  cases hz : g d e with
  | none => simp only [hz] at h2; exact h2.elim
  | some z =>
    cases z with
    | bl k =>
      -- the first answer
      refine hg Z2 H2 φ2 x y d e (.bl k) W0 σ _ w2 (show Res .p c.K c.f H2 Z2 H2 x d from r1.pmono e2) r2' hz ?_
      intro v Z3 H3 e3 w3 r3
      refine ⟨k, r3.bl, ?_⟩
      cases k with
      | false =>
        simp only [hz] at h2
        rw [if_neg (by decide)]
        exact h2 _ Z3 H3 e3 w3 (Res.of_flat (.bl false) rfl)
      | true =>
        simp only [hz] at h2
        rw [if_pos rfl]
        refine ⟨Z3, ρ, φ2, R2.more e3 w3, Post.bindE (h2.shift e3) fun t φ4 u Z4 H4 e4 w4 r4 h4 => ?_⟩
        obtain ⟨z', hz', h5⟩ := ofO_ok (E := fun o => Post c .o W o σ Z4 H4 Q) h4 fun z => z
        exact hg' Z4 H4 φ4 y u e t z' W σ Q w4 (show Res .p c.K c.f H4 Z4 H4 y e from (r2'.pmono e3).pmono e4) (show Res .p c.K c.f H4 Z4 H4 u t from r4) hz' h5
    | _ => simp only [hz] at h2; exact h2.elim
theorem x_ch {op op' : CmpOp} {r r' : R2} {g g' : D → D → Option D} (ho : OpR X (compareOp op) r) (ho' : OpR X (compareOp op') r') (hg : OpG r .o c g) (hg' : OpG r' .o c g') (ha : EX X c own .p W a A) (hb : EX X c own .p W b B) (hd : EX X c own .p W d C)
    (hm : lastMarks [op, op'] [b, d] = false := by with_unfolding_all rfl) : EX X c own .o W (.Compare a [op, op'] [b, d] pos) (eCh g g' A B C) := PE.weak (pe_chain ho ho' ha hb hd hm) fun _ _ _ h => ch_core hg hg' h
theorem b_ch {op op' : CmpOp} {r r' : R2} {g g' : D → D → Option D} (ho : OpR X (compareOp op) r) (ho' : OpR X (compareOp op') r') (hg : OpG r .o c g) (hg' : OpG r' .o c g') (ha : EX X c own .p W a A) (hb : EX X c own .p W b B) (hd : EX X c own .p W d C)
    (hm : lastMarks [op, op'] [b, d] = false := by with_unfolding_all rfl) : BX X c own W (.Compare a [op, op'] [b, d] pos) (bVal (eCh g g' A B C)) := by
  refine PT.weak (pt_chain ho ho' ha hb hd hm) ?_
  rintro σ H Q ⟨Z, ρ, φ, R, h⟩
  show tChain r r' _ _ _ σ H fun x H' => ∃ k, x = .bl k ∧ Q k H'
  refine ch_core (A := A) (B := B) (C := C) hg hg' ⟨Z, ρ, φ, R, ?_⟩
  refine Post.bindB h fun d φ1 v Z1 H1 e1 w1 r1 h1 => ?_
  cases d with
  | bl b => exact ⟨b, r1.bl, h1 Z1 H1 .refl w1⟩
  | _ => exact h1.elim
theorem gLt_ok : OpG (rI0 fun i j => .bl (decide (i < j))) m c gLt := gIB_ok
theorem gLe_ok : OpG (rI0 fun i j => .bl (decide (i ≤ j))) m c gLe := gIB_ok
theorem gGt_ok : OpG (rI0 fun i j => .bl (decide (j < i))) m c gGt := gIB_ok
theorem gGe_ok : OpG (rI0 fun i j => .bl (decide (j ≤ i))) m c gGe := gIB_ok
end

/-! ## comprehensions of two clauses -/
/-- the inner turns: what they add -/
def lc2In (T1 : Tg) (tst1 : SB) (elt : SX) (ρ : En) : List D → Fd → O (List D) := lcGo T1 tst1 elt ρ
def lc2Go (T : Tg) (tst : SB) (I1 : SA) (T1 : Tg) (tst1 : SB) (elt : SX) (vs1 : List Nat) (ρ : En) : List D → Fd → O (List D)
  | [], φ => .ok [] φ
  | d :: ds, φ => match T d ρ with
    | none => .bad
    | some ρ1 => match tst ρ1 φ with
      | .ok true φ1 => match I1 ρ1 φ1 with
        | .ok es φ2 => match lcGo T1 tst1 elt (wipeE ρ1 vs1) es φ2 with
          | .ok xs φ3 => match lc2Go T tst I1 T1 tst1 elt vs1 ρ ds φ3 with
            | .ok ys φ4 => .ok (xs ++ ys) φ4
            | _ => .bad
          | _ => .bad
        | _ => .bad
      | .ok false φ1 => lc2Go T tst I1 T1 tst1 elt vs1 ρ ds φ1
      | _ => .bad
def eLc2 (I : SA) (T : Tg) (tst : SB) (I1 : SA) (T1 : Tg) (tst1 : SB) (elt : SX) (vs vs1 : List Nat) : SX := fun ρ φ => (I ρ φ).bind fun ds φ1 => match lc2Go T tst I1 T1 tst1 elt vs1 (wipeE ρ vs) ds φ1 with
  | .ok ys φ2 => if ys.length ≤ sizeLine then .ok (.lst ys) φ2 else .bad
  | _ => .bad
theorem lc2Go_cons {T : Tg} {tst : SB} {I1 : SA} {T1 : Tg} {tst1 : SB} {elt : SX} {vs1 : List Nat} {ρ : En} {d : D} {ds ys : List D} {φ φ' : Fd} (h : lc2Go T tst I1 T1 tst1 elt vs1 ρ (d :: ds) φ = .ok ys φ') :
    ∃ ρ1 b φ1, T d ρ = some ρ1 ∧ tst ρ1 φ = .ok b φ1 ∧ ((b = false ∧ lc2Go T tst I1 T1 tst1 elt vs1 ρ ds φ1 = .ok ys φ') ∨
      (b = true ∧ ∃ es φ2 xs φ3 r, I1 ρ1 φ1 = .ok es φ2 ∧ lcGo T1 tst1 elt (wipeE ρ1 vs1) es φ2 = .ok xs φ3 ∧ lc2Go T tst I1 T1 tst1 elt vs1 ρ ds φ3 = .ok r φ' ∧ ys = xs ++ r)) := by
  unfold lc2Go at h
  cases e1 : T d ρ with
  | none => rw [e1] at h; cases h
  | some ρ1 =>
    rw [e1] at h
    cases e2 : tst ρ1 φ with
    | ex _ _ _ => simp only [e2] at h; cases h
    | bad => simp only [e2] at h; cases h
    | ok b φ1 =>
      cases b with
      | false => simp only [e2] at h; exact ⟨ρ1, false, φ1, rfl, e2, .inl ⟨rfl, h⟩⟩
      | true =>
        simp only [e2] at h
        cases e3 : I1 ρ1 φ1 with
        | ex _ _ _ => simp only [e3] at h; cases h
        | bad => simp only [e3] at h; cases h
        | ok es φ2 =>
          simp only [e3] at h
          cases e4 : lcGo T1 tst1 elt (wipeE ρ1 vs1) es φ2 with
          | ex _ _ _ => simp only [e4] at h; cases h
          | bad => simp only [e4] at h; cases h
          | ok xs φ3 =>
            simp only [e4] at h
            cases e5 : lc2Go T tst I1 T1 tst1 elt vs1 ρ ds φ3 with
            | ex _ _ _ => simp only [e5] at h; cases h
            | bad => simp only [e5] at h; cases h
            | ok r φ4 =>
              simp only [e5] at h
              cases h
              exact ⟨ρ1, true, φ1, rfl, e2, .inr ⟨rfl, es, φ2, xs, φ3, r, e3, e4, e5, rfl⟩⟩
/-- the new list within the turns: D holds acc, what stood stands -/
structure Lcs (c : Ct) (Z1 H1 : Hp) (D : Addr) (Zn Hn : Hp) (φn : Fd) (accV : List V) (acc : List Pf.D) : Prop where
  en : Ext c.f Z1 H1 Zn Hn
  nD : Zn D = none
  wn : Wf c.K c.f Zn Hn φn
  hD : Hn D = some (.lst accV)
  ra : Reps c.K c.f Zn accV acc
theorem Lcs.more {c : Ct} {Z1 H1 Zn Hn Z' H' : Hp} {D : Addr} {φn φ' : Fd} {accV : List V} {acc : List Pf.D} (L : Lcs c Z1 H1 D Zn Hn φn accV acc) (hDf : D ≠ c.f) (e : Ext c.f Zn Hn Z' H') (w : Wf c.K c.f Z' H' φ') : Lcs c Z1 H1 D Z' H' φ' accV acc :=
  ⟨L.en.trans e, e.n D (by rw [L.hD]; simp) L.nD, w, e.h D _ hDf L.hD, L.ra.mono e.z⟩
theorem Lcs.push {c : Ct} {Z1 H1 Zn Hn : Hp} {D : Addr} {φn : Fd} {accV : List V} {acc : List Pf.D} {v : V} {y : Pf.D} (L : Lcs c Z1 H1 D Zn Hn φn accV acc) (hD1 : H1 D = none) (hDf : D ≠ c.f) (r : Rep c.K c.f Zn v y) :
    Lcs c Z1 H1 D Zn (upd Hn D (.lst (accV ++ [v]))) φn (accV ++ [v]) (acc ++ [y]) := by
  refine ⟨⟨L.en.z, fun a o ha hh => ?_, fun a ha => ?_, L.en.n, L.en.d.trans (.same (upd_ne (Ne.symm hDf)))⟩, L.nD, ⟨fun a o ha => ?_, L.wn.zf, ?_, L.wn.ok⟩, upd_same, L.ra.app (.cons r .nil)⟩
  · rw [upd_ne (ne_of_none hh hD1)]; exact L.en.h a o ha hh
  · by_cases hb : a = D
    · rw [hb, upd_same]; simp
    · rw [upd_ne hb]; exact L.en.k a ha
  · rw [upd_ne (fun e => by rw [e, L.nD] at ha; cases ha)]; exact L.wn.sub a o ha
  · obtain ⟨s, k1, k2⟩ := L.wn.feed
    exact ⟨s, k1, by rw [upd_ne (Ne.symm hDf)]; exact k2⟩
theorem Lcs.start {c : Ct} {Z1 H1 : Hp} {D : Addr} {φ1 : Fd} (w1 : Wf c.K c.f Z1 H1 φ1) (hD : H1 D = none) (hDf : D ≠ c.f) : Lcs c Z1 H1 D Z1 (upd H1 D (.lst [])) φ1 [] [] := by
  have up : ∀ b u, H1 b = some u → upd H1 D (.lst []) b = some u := fun b u e => by rw [upd_ne (ne_of_none e hD)]; exact e
  have hz : Z1 D = none := by
    cases e : Z1 D with
    | none => rfl
    | some u => rw [w1.sub D u e] at hD; cases hD
  refine ⟨⟨fun _ _ e => e, fun b u _ e => up b u e, fun b hb => ?_, fun _ _ e => e, .same (upd_ne (Ne.symm hDf))⟩, hz, ⟨fun b u e => up b u (w1.sub b u e), w1.zf, ?_, w1.ok⟩, upd_same, .nil⟩
  · cases e : H1 b with
    | none => exact absurd e hb
    | some u => rw [up b u e]; simp
  · obtain ⟨s, k1, k2⟩ := w1.feed
    exact ⟨s, k1, up _ _ k2⟩
section
variable {X : Cx} {c : Ct} {own o1 o2 : List Ms} {W : WX} {pos : Pos}
theorem lc2_read {I I1 : SA} {T T1 : Tg} {tst tst1 : SB} {elt : SX} {vs vs1 is is1 : List Nat} {σ : L2.St} {H : Hp} {Q : VK} (his : ∀ j ∈ is, j ∈ vs) (his1 : ∀ j ∈ is1, j ∈ vs1) (hvs : ∀ j ∈ vs1, j ∈ vs) (h : tE c own .o W (eLc2 I T tst I1 T1 tst1 elt vs vs1) σ H Q) :
    tLc2 (tI c own true W I) (tT c (ownB own vs) o1 is T) (tB c o1 W0 tst) (tI c o1 false W0 I1) (tT c (ownB o1 vs1) o2 is1 T1) (tB c o2 W0 tst1) (tE c o2 .s W0 elt) vs vs1 σ H Q := by
  obtain ⟨Z, ρ, φ, R, h⟩ := h
  refine ⟨Z, ρ, φ, R, ?_⟩
  unfold eLc2 at h
  cases hI : I ρ φ with
  | bad => rw [hI] at h; exact h
  | ex y l φ' => rw [hI] at h; exact h
  | ok ds φ1 =>
    rw [hI] at h
    intro J Z1 H1 e1 w1 wk D hD
    have hgo : ∃ ys φ2, lc2Go T tst I1 T1 tst1 elt vs1 (wipeE ρ vs) ds φ1 = .ok ys φ2 ∧ ys.length ≤ sizeLine ∧ Post c .o W (.ok (.lst ys) φ2) σ Z H Q := by
      have h' : Post c .o W (match lc2Go T tst I1 T1 tst1 elt vs1 (wipeE ρ vs) ds φ1 with
        | .ok ys φ2 => if ys.length ≤ sizeLine then .ok (.lst ys) φ2 else .bad
        | _ => .bad) σ Z H Q := h
      cases hg : lc2Go T tst I1 T1 tst1 elt vs1 (wipeE ρ vs) ds φ1 with
      | bad => rw [hg] at h'; exact h'.elim
      | ex _ _ _ => rw [hg] at h'; exact h'.elim
      | ok ys φ2 =>
        rw [hg] at h'
        obtain ⟨h1, h2⟩ := iteO_ok (E := fun o => Post c .o W o σ Z H Q) h' fun z => z
        exact ⟨ys, φ2, rfl, h1, h2⟩
    obtain ⟨tot, φe, hgo, hsz, hpost⟩ := hgo
    have hDf : D ≠ c.f := fun e => w1.hf (by rw [← e]; exact hD)
    refine ⟨fun i m Hn => m = ds.length - i ∧ i ≤ ds.length ∧ ∃ Zn φn acc accV rest, Lcs c Z1 H1 D Zn Hn φn accV acc ∧ lc2Go T tst I1 T1 tst1 elt vs1 (wipeE ρ vs) (ds.drop i) φn = .ok rest φe ∧ acc ++ rest = tot,
      ⟨ds.length, by simp, Nat.zero_le _, Z1, φ1, [], [], tot, .start w1 hD hDf, hgo, rfl⟩, ?_⟩
    rintro i m Hn ⟨rfl, hi, Zn, φn, acc, accV, rest, L, hg, ht⟩
    obtain ⟨wk1, wk2⟩ := wk i Zn Hn φn ⟨L.en.z, fun _ => L.en.h, ((R.more e1 w1).ext.trans L.en).h⟩ L.wn
    by_cases hlt : i < ds.length
    · obtain ⟨d, hd⟩ : ∃ d, ds[i]? = some d := ⟨_, List.getElem?_eq_getElem hlt⟩
      obtain ⟨go, step⟩ := wk2 d hd
      rw [List.drop_eq_getElem_cons hlt] at hg
      have hdd : ds[i] = d := by
        rw [List.getElem?_eq_getElem hlt] at hd
        exact Option.some.inj hd
      rw [hdd] at hg
      obtain ⟨ρ1, b, φt, hT, htst, hcase⟩ := lc2Go_cons hg
      refine .inr ⟨go, fun H' => ∃ m', m' < ds.length - i ∧ (m' = ds.length - (i + 1) ∧ i + 1 ≤ ds.length ∧ ∃ Zn φn acc accV rest, Lcs c Z1 H1 D Zn H' φn accV acc ∧ lc2Go T tst I1 T1 tst1 elt vs1 (wipeE ρ vs) (ds.drop (i + 1)) φn = .ok rest φe ∧ acc ++ rest = tot), fun H' h => h, fun x Hx hx => ?_⟩
      obtain ⟨Zx, ex, wx, rx⟩ := step x Hx hx
      have Lx := L.more hDf ex wx
      have Rb : Rl c (ownB own vs) Zx (wipeE ρ vs) φn (L2.wipe σ vs) Hx := ((R.more e1 w1).more Lx.en wx).block vs
      refine ⟨Zx, wipeE ρ vs, φn, d, ρ1, Rb, rx, hT, fun σ2 tr agr => ⟨?_, Zx, ρ1, φn, tr Zx Hx φn Sub.refl Rb, ?_⟩⟩
      · have hh : L2.wipe σ2 vs = L2.wipe (L2.wipe σ vs) vs := agr.wipe his
        rw [hh]
        refine Agr.wipe (is := vs) ⟨wipe_length _ _, fun j hj => wipe_out hj⟩ fun j h => h
      · rw [htst]
        intro Z3 H3 e3 w3
        have L3 := Lx.more hDf e3 w3
        rcases hcase with ⟨rfl, hr⟩ | ⟨rfl, es, φi, xs, φx, r, hI1, hin, hr, hys⟩
        · rw [if_neg (by decide)]
          exact ⟨ds.length - (i + 1), by omega, rfl, hlt, Z3, φt, acc, accV, rest, L3, hr, ht⟩
        · rw [if_pos rfl]
          have R3 := (tr Zx Hx φn Sub.refl Rb).more e3 w3
          refine ⟨Z3, ρ1, φt, R3, ?_⟩
          rw [hI1]
          intro J1 Z4 H4 e4 w4 wk4
          have L4 := L3.more hDf e4 w4
          have R4 := R3.more e4 w4
          -- the inner walk
          refine ⟨fun j k Hm => k = es.length - j ∧ j ≤ es.length ∧ ∃ Zm φm acc' accV' rest', Lcs c Z1 H1 D Zm Hm φm accV' acc' ∧ Sub Z4 Zm ∧ lcGo T1 tst1 elt (wipeE ρ1 vs1) (es.drop j) φm = .ok rest' φx ∧ acc' ++ rest' = acc ++ xs,
            ⟨es.length, by simp, Nat.zero_le _, Z4, φi, acc, accV, xs, L4, Sub.refl, hin, rfl⟩, ?_⟩
          rintro j k Hm ⟨rfl, hj, Zm, φm, acc', accV', rest', Lm, em, hgm, htm⟩
          obtain ⟨vk1, vk2⟩ := wk4 j Zm Hm φm ⟨em, fun e => absurd e (by decide), ((R.more e1 w1).ext.trans Lm.en).h⟩ Lm.wn
          by_cases hjl : j < es.length
          · obtain ⟨d1, hd1⟩ : ∃ d, es[j]? = some d := ⟨_, List.getElem?_eq_getElem hjl⟩
            obtain ⟨go1, step1⟩ := vk2 d1 hd1
            rw [List.drop_eq_getElem_cons hjl] at hgm
            have hdd1 : es[j] = d1 := by
              rw [List.getElem?_eq_getElem hjl] at hd1
              exact Option.some.inj hd1
            rw [hdd1] at hgm
            obtain ⟨ρ2, b1, φu, hT1, htst1, hcase1⟩ := lcGo_cons hgm
            refine .inr ⟨go1, fun H' => ∃ k', k' < es.length - j ∧ (k' = es.length - (j + 1) ∧ j + 1 ≤ es.length ∧ ∃ Zm φm acc' accV' rest', Lcs c Z1 H1 D Zm H' φm accV' acc' ∧ Sub Z4 Zm ∧ lcGo T1 tst1 elt (wipeE ρ1 vs1) (es.drop (j + 1)) φm = .ok rest' φx ∧ acc' ++ rest' = acc ++ xs), fun H' h => h, fun x1 Hy hy => ?_⟩
            obtain ⟨Zy, ey, wy, ry⟩ := step1 x1 Hy hy
            have Ly := Lm.more hDf ey wy
            have kxy : Sub Zx Zy := ((Sub.trans e3.z e4.z).trans em).trans ey.z
            have Ry : Rl c o1 Zy ρ1 φm σ2 Hy := tr Zy Hy φm kxy (((R.more e1 w1).more Ly.en wy).block vs)
            have Rb1 : Rl c (ownB o1 vs1) Zy (wipeE ρ1 vs1) φm (L2.wipe σ2 vs1) Hy := Ry.block vs1
            refine ⟨Zy, wipeE ρ1 vs1, φm, d1, ρ2, Rb1, ry, hT1, fun σ3 tr1 agr1 => ⟨?_, Zy, ρ2, φm, tr1 Zy Hy φm Sub.refl Rb1, ?_⟩⟩
            · have hh : L2.wipe σ3 vs1 = L2.wipe (L2.wipe σ2 vs1) vs1 := agr1.wipe his1
              rw [hh]
              refine Agr.wipe (is := vs1) ⟨wipe_length _ _, fun j hj => wipe_out hj⟩ fun j h => h
            · rw [htst1]
              intro Z6 H6 e6 w6
              have L6 := Ly.more hDf e6 w6
              rcases hcase1 with ⟨rfl, hr1⟩ | ⟨rfl, y, φy, r1, hy1, hr1, hys1⟩
              · rw [if_neg (by decide)]
                exact ⟨es.length - (j + 1), by omega, rfl, hjl, Z6, φu, acc', accV', rest', L6, (em.trans ey.z).trans e6.z, hr1, htm⟩
              · rw [if_pos rfl]
                refine ⟨Z6, ρ2, φu, (tr1 Zy Hy φm Sub.refl Rb1).more e6 w6, ?_⟩
                rw [hy1]
                intro v Z7 H7 e7 w7 r7
                have r7' : Rep c.K c.f Z7 v y := r7
                have L7 := L6.more hDf e7 w7
                have hacc : accV'.length < sizeLine := by
                  have g1 := Lm.ra.length
                  have g2 : (acc ++ rest).length ≤ sizeLine := by rw [ht]; exact hsz
                  have g3 := congrArg List.length htm
                  rw [hys1] at g3
                  rw [hys] at g2
                  simp only [List.length_append, List.length_cons] at g2 g3
                  omega
                exact ⟨accV', L7.hD, hacc, es.length - (j + 1), by omega, rfl, hjl, Z7, φy, acc' ++ [y], accV' ++ [v], r1, L7.push hD hDf r7', ((em.trans ey.z).trans e6.z).trans e7.z, hr1, by rw [List.append_assoc, ← htm, hys1]; rfl⟩
          · have hje : j = es.length := by omega
            refine .inl ⟨vk1 hje, ?_⟩
            rw [hje, List.drop_length] at hgm
            cases hgm
            rw [List.append_nil] at htm
            exact ⟨ds.length - (i + 1), by omega, rfl, hlt, Zm, φx, acc', accV', r, Lm, hr, by rw [htm, List.append_assoc, ← hys]; exact ht⟩
    · have hie : i = ds.length := by omega
      refine .inl ⟨wk1 hie, ?_⟩
      rw [hie, List.drop_length] at hg
      cases hg
      rw [List.append_nil] at ht
      subst ht
      have e2 := e1.trans L.en
      refine hpost (.ref D) Zn Hn e2 L.wn ?_
      show Res .o c.K c.f H Zn Hn (.ref D) (.lst acc)
      unfold Res
      rw [if_pos (by rfl)]
      refine ⟨D, .lst accV, rfl, ?_, L.nD, hDf, L.hD, .lst L.ra⟩
      cases e : H D with
      | none => rfl
      | some u => exact absurd hD (e1.k D (by rw [e]; simp))
end
end Pf

set_option Elab.async false
set_option linter.all false
set_option maxRecDepth 100000
set_option maxHeartbeats 4000000
namespace Pf
open PySem PySem.Spec PyProof.Rows L2

/-! ## order of data -/
def ltD (d e : D) : Bool := PySem.W.dataLt d.py e.py
def okLt (d e : D) : Bool := PySem.W.alike d.py e.py && d.shp && e.shp && !d.isNon
def rCmpD (K : PySem.W.Frag) (g : PyData → PyData → Bool) : R2 := fun x y H Q => ∃ d e, Dp K H x d ∧ Dp K H y e ∧ PySem.W.alike d e = true ∧ SeqAt.shaped d = true ∧ d ≠ .none ∧ Q (.bl (g d e)) H
section
variable {X : Cx}
theorem room_min {d e : PyData} {n : Nat} (sd : SeqAt.shaped d = true) (hu : n + 64 < cLine) : n + min d.depth e.depth < cLine := by
  have := SeqAt.depth_of_shaped sd
  omega
theorem op_ltD (hu : X.A.units + 64 < cLine) : OpR X (compareOp .Lt) (rCmpD X.K fun d e => PySem.W.dataLt d e) := by
  intro pins s σ H x y v u Q I rx ry h
  obtain ⟨d, e, hd, he, al, sd, hn, q⟩ := h
  obtain ⟨as, r1⟩ := Dp.reads I d x v hd rx
  obtain ⟨bs, r2⟩ := Dp.reads I e y u he ry
  exact PySem.W.lt_data r1 r2 al hn (room_min sd hu) ⟨.bl _, H, I, rfl, q⟩
theorem op_gtD (hu : X.A.units + 64 < cLine) : OpR X (compareOp .Gt) (rCmpD X.K fun d e => PySem.W.dataLt e d) := by
  intro pins s σ H x y v u Q I rx ry h
  obtain ⟨d, e, hd, he, al, sd, hn, q⟩ := h
  obtain ⟨as, r1⟩ := Dp.reads I d x v hd rx
  obtain ⟨bs, r2⟩ := Dp.reads I e y u he ry
  exact PySem.W.gt_data r1 r2 al hn (room_min sd hu) ⟨.bl _, H, I, rfl, q⟩
theorem op_leD (hu : X.A.units + 64 < cLine) : OpR X (compareOp .LtE) (rCmpD X.K fun d e => !PySem.W.dataLt e d) := by
  intro pins s σ H x y v u Q I rx ry h
  obtain ⟨d, e, hd, he, al, sd, hn, q⟩ := h
  obtain ⟨as, r1⟩ := Dp.reads I d x v hd rx
  obtain ⟨bs, r2⟩ := Dp.reads I e y u he ry
  exact PySem.W.le_data r1 r2 al hn (room_min sd hu) ⟨.bl _, H, I, rfl, q⟩
theorem op_geD (hu : X.A.units + 64 < cLine) : OpR X (compareOp .GtE) (rCmpD X.K fun d e => !PySem.W.dataLt d e) := by
  intro pins s σ H x y v u Q I rx ry h
  obtain ⟨d, e, hd, he, al, sd, hn, q⟩ := h
  obtain ⟨as, r1⟩ := Dp.reads I d x v hd rx
  obtain ⟨bs, r2⟩ := Dp.reads I e y u he ry
  exact PySem.W.ge_data r1 r2 al hn (room_min sd hu) ⟨.bl _, H, I, rfl, q⟩
end
def gLtD : D → D → Option D := fun d e => if okLt d e = true then some (.bl (ltD d e)) else none
def gGtD : D → D → Option D := fun d e => if okLt d e = true then some (.bl (ltD e d)) else none
def gLeD : D → D → Option D := fun d e => if okLt d e = true then some (.bl (!ltD e d)) else none
def gGeD : D → D → Option D := fun d e => if okLt d e = true then some (.bl (!ltD d e)) else none
theorem okLt_ok {d e : D} (h : okLt d e = true) : PySem.W.alike d.py e.py = true ∧ d.shp = true ∧ e.shp = true ∧ d.py ≠ .none := by
  unfold okLt at h
  simp only [Bool.and_eq_true, Bool.not_eq_true'] at h
  obtain ⟨⟨⟨h1, h2⟩, h3⟩, h4⟩ := h
  refine ⟨h1, h2, h3, ?_⟩
  intro q
  cases d <;> first | (cases q; done) | (simp [D.isNon] at h4)
section
variable {X : Cx} {c : Ct} {own : List Ms} {m : Md} {W : WX} {a b : Expr} {A B : SX} {pos : Pos}
theorem cmpD_ok {g : PyData → PyData → Bool} : OpG (rCmpD c.K g) m c (fun d e => if okLt d e = true then some (.bl (g d.py e.py)) else none) := by
  intro Z H φ x y d e z W σ Q w rx ry hg h
  obtain ⟨hs, rfl⟩ := ifs hg
  obtain ⟨h1, h2, h3, h4⟩ := okLt_ok hs
  exact ⟨_, _, rx.dp w (SeqAt.canLay_of_shaped h2), ry.dp w (SeqAt.canLay_of_shaped h3), h1, h2, h4, h.nowB w⟩
theorem gLtD_ok : OpG (rCmpD c.K fun d e => PySem.W.dataLt d e) m c gLtD := cmpD_ok
theorem gGtD_ok : OpG (rCmpD c.K fun d e => PySem.W.dataLt e d) m c gGtD := cmpD_ok
theorem gLeD_ok : OpG (rCmpD c.K fun d e => !PySem.W.dataLt e d) m c gLeD := cmpD_ok
theorem gGeD_ok : OpG (rCmpD c.K fun d e => !PySem.W.dataLt d e) m c gGeD := cmpD_ok
theorem x_ltD (hK : X.K = c.K) (hu : X.A.units + 64 < cLine) (ha : EX X c own .p W a A) (hb : EX X c own .p W b B) : EX X c own .o W (.Compare a [.Lt] [b] pos) (eBin gLtD A B) := x_cmp (op_ltD hu) (by rw [hK]; exact gLtD_ok) ha hb (nomark _)
theorem x_gtD (hK : X.K = c.K) (hu : X.A.units + 64 < cLine) (ha : EX X c own .p W a A) (hb : EX X c own .p W b B) : EX X c own .o W (.Compare a [.Gt] [b] pos) (eBin gGtD A B) := x_cmp (op_gtD hu) (by rw [hK]; exact gGtD_ok) ha hb (nomark _)
theorem x_leD (hK : X.K = c.K) (hu : X.A.units + 64 < cLine) (ha : EX X c own .p W a A) (hb : EX X c own .p W b B) : EX X c own .o W (.Compare a [.LtE] [b] pos) (eBin gLeD A B) := x_cmp (op_leD hu) (by rw [hK]; exact gLeD_ok) ha hb (nomark _)
theorem x_geD (hK : X.K = c.K) (hu : X.A.units + 64 < cLine) (ha : EX X c own .p W a A) (hb : EX X c own .p W b B) : EX X c own .o W (.Compare a [.GtE] [b] pos) (eBin gGeD A B) := x_cmp (op_geD hu) (by rw [hK]; exact gGeD_ok) ha hb (nomark _)
theorem b_ltD (hK : X.K = c.K) (hu : X.A.units + 64 < cLine) (ha : EX X c own .p W a A) (hb : EX X c own .p W b B) : BX X c own W (.Compare a [.Lt] [b] pos) (bCmp gLtD A B) := b_cmp (op_ltD hu) (by rw [hK]; exact gLtD_ok) ha hb (nomark _)
theorem b_gtD (hK : X.K = c.K) (hu : X.A.units + 64 < cLine) (ha : EX X c own .p W a A) (hb : EX X c own .p W b B) : BX X c own W (.Compare a [.Gt] [b] pos) (bCmp gGtD A B) := b_cmp (op_gtD hu) (by rw [hK]; exact gGtD_ok) ha hb (nomark _)
theorem b_leD (hK : X.K = c.K) (hu : X.A.units + 64 < cLine) (ha : EX X c own .p W a A) (hb : EX X c own .p W b B) : BX X c own W (.Compare a [.LtE] [b] pos) (bCmp gLeD A B) := b_cmp (op_leD hu) (by rw [hK]; exact gLeD_ok) ha hb (nomark _)
theorem b_geD (hK : X.K = c.K) (hu : X.A.units + 64 < cLine) (ha : EX X c own .p W a A) (hb : EX X c own .p W b B) : BX X c own W (.Compare a [.GtE] [b] pos) (bCmp gGeD A B) := b_cmp (op_geD hu) (by rw [hK]; exact gGeD_ok) ha hb (nomark _)
end

/-! ## sorted -/
def leD (d e : D) : Bool := !ltD e d
def sortD (l : List D) : List D := l.mergeSort leD
/-- what sorted asks of the items -/
def okSort (l : List D) : Prop := (∀ d ∈ l, ∀ e ∈ l, PySem.W.alike d.py e.py = true) ∧ (∀ d ∈ l, d.shp = true) ∧ ((∀ d ∈ l, ∃ x r, d = .tup (x :: r)) ∨ ∀ d ∈ l, d ≠ .non ∧ ∀ xs, d ≠ .tup xs)
noncomputable instance okSortD (l : List D) : Decidable (okSort l) := Classical.propDecidable _
noncomputable def gSorted : List D → Option D
  | [.lst l] => if okSort l then some (.lst (sortD l)) else none
  | _ => none
theorem gSorted_l {l : List D} (h : okSort l) : gSorted [.lst l] = some (.lst (sortD l)) := by
  show (if okSort l then some (D.lst (sortD l)) else none) = _
  rw [if_pos h]
def leP (p q : V × PyData) : Bool := !PySem.W.dataLt q.2 p.2
def rSortedD (K : PySem.W.Frag) : List V → Hp → VK → Prop := fun vs H Q => ∃ (a : Addr) (ps : List (V × PyData)), vs = [V.ref a] ∧ SqL K H a (ps.map Prod.fst) ∧ (∀ p ∈ ps, Dp K H p.1 p.2) ∧ (∀ p ∈ ps, ∀ q ∈ ps, PySem.W.alike p.2 q.2 = true) ∧ (∀ p ∈ ps, SeqAt.shaped p.2 = true) ∧
  PySem.W.Sortable (ps.map Prod.snd) ∧ ∀ (p : Addr), H p = none → Q (.ref p) (upd H p (.lst ((ps.mergeSort leP).map Prod.fst)))
section
variable {X : Cx}
theorem vals_each {α : Type} {f : α → V} : ∀ {bs : List α} {vs : List Value}, Vals (bs.map f) vs → PySem.W.EachIs (fun v b => RelV (f b) v) vs bs
  | [], _, h => by cases h; exact .nil
  | b :: bs, _, h => by
    cases h with
    | cons h1 h2 => exact .cons h1 (vals_each h2)
theorem each_vals {α : Type} {f : α → V} : ∀ {bs : List α} {vs : List Value}, PySem.W.EachIs (fun v b => RelV (f b) v) vs bs → Vals (bs.map f) vs
  | [], _, h => by cases h; exact .nil
  | b :: bs, _, h => by
    cases h with
    | cons h1 h2 => exact .cons h1 (each_vals h2)
theorem each_mono {α β : Type} {R S : α → β → Prop} : ∀ {as : List α} {bs : List β}, PySem.W.EachIs R as bs → (∀ a b, b ∈ bs → R a b → S a b) → PySem.W.EachIs S as bs
  | _, _, .nil, _ => .nil
  | _, _, .cons h t, k => .cons (k _ _ List.mem_cons_self h) (each_mono t fun a b hb => k a b (List.mem_cons_of_mem _ hb))
theorem each_map {α β γ : Type} {R : α → γ → Prop} (f : β → γ) : ∀ {as : List α} {bs : List β}, PySem.W.EachIs (fun a b => R a (f b)) as bs → PySem.W.EachIs R as (bs.map f)
  | _, _, .nil => .nil
  | _, _, .cons h t => .cons h (each_map f t)
theorem cr_sortedD (hu : X.A.units + 66 < cLine) : CallR X (.builtin "sorted") (rSortedD X.K) := by
  intro pins s σ H vs us Q I r h
  obtain ⟨a, ps, rfl, hs, hd, hal, hsh, hst, q⟩ := h
  obtain ⟨its, rv, hl, hz⟩ := I.list hs
  rw [Vals.ref1 r]
  have e0 : PySem.W.EachIs (fun v (b : V × PyData) => RelV b.1 v) its ps := vals_each rv
  have keep : ∀ b o, s.heap.get? b = some o → (PySem.W.sortingHeap (PySem.W.copyHeap s.heap its) (s.heap.objs.size + 1) its).get? b = some o := fun b o e => PySem.W.sorting_copy_old e
  have e1 : PySem.W.EachIs (fun v (b : V × PyData) => RelV b.1 v ∧ ∃ as, Reads (PySem.W.sortingHeap (PySem.W.copyHeap s.heap its) (s.heap.objs.size + 1) its) v b.2 as) its ps :=
    each_mono e0 fun v b hb rb => by
      obtain ⟨as, ra⟩ := Dp.reads I b.2 b.1 v (hd b hb) rb
      exact ⟨rb, as, PyProof.Rows.Reads.keeps keep ra⟩
  have e2 := each_map (R := fun v d => ∃ as, Reads (PySem.W.sortingHeap (PySem.W.copyHeap s.heap its) (s.heap.objs.size + 1) its) v d as) Prod.snd (each_mono e1 fun _ _ _ q => q.2)
  have hAll : PySem.W.AllAlike (ps.map Prod.snd) := fun d h1 d' h2 => by
    obtain ⟨p, hp, rfl⟩ := List.mem_map.mp h1
    obtain ⟨p', hp', rfl⟩ := List.mem_map.mp h2
    exact hal p hp p' hp'
  have S := PySem.W.SortsAt.data (prog := X.prog) (w := X.w) (A := X.A.in1.in1) (s := { s with heap := PySem.W.sortingHeap (PySem.W.copyHeap s.heap its) (s.heap.objs.size + 1) its }) e2 hAll hst fun d h1 => by
    obtain ⟨p, hp, rfl⟩ := List.mem_map.mp h1
    have := SeqAt.depth_of_shaped (hsh p hp)
    show X.A.units + 1 + 1 + _ < cLine
    omega
  have hzi : its.length ≤ sizeLine := by rw [← rv.length]; exact hz
  refine PySem.W.sorted_vals hl.isList S hzi ?_
  obtain ⟨ep, he'⟩ := PyProof.Rows.sortedAll_at s.heap its (PySem.W.sortVals (PySem.W.dataKind (PySem.W.sortingHeap (PySem.W.copyHeap s.heap its) (s.heap.objs.size + 1) its) (ps.map Prod.snd)) false its its).toArray
  have kk : PySem.W.EachIs (fun v (b : V × PyData) => (PySem.W.dataKind (PySem.W.sortingHeap (PySem.W.copyHeap s.heap its) (s.heap.objs.size + 1) its) (ps.map Prod.snd)).keyOf v = some (PySem.W.keyToks b.2)) its ps :=
    each_mono e1 fun v b hb ⟨_, as, ra⟩ => PySem.W.dataKind_some hAll (List.mem_map.mpr ⟨b, hb, rfl⟩) ra
  have out := PySem.W.sortVals_each (κ := PySem.W.dataKind (PySem.W.sortingHeap (PySem.W.copyHeap s.heap its) (s.heap.objs.size + 1) its) (ps.map Prod.snd)) (rev := false) (fun b : V × PyData => PySem.W.keyToks b.2) e0 kk
  have hle : PySem.W.sortLe (listOrd itemOrd) false (fun b : V × PyData => PySem.W.keyToks b.2) = leP := rfl
  have out' : Vals ((ps.mergeSort leP).map Prod.fst) (PySem.W.sortVals (PySem.W.dataKind (PySem.W.sortingHeap (PySem.W.copyHeap s.heap its) (s.heap.objs.size + 1) its) (ps.map Prod.snd)) false its its) := each_vals out
  have hlen : ((ps.mergeSort leP).map Prod.fst).length ≤ sizeLine := by
    rw [List.length_map, (List.mergeSort_perm _ _).length_eq]
    rw [List.length_map] at hz
    exact hz
  exact ⟨.ref _, upd H (s.heap.objs.size + 1) (.lst ((ps.mergeSort leP).map Prod.fst)), I.laid (t' := s.toks) (fun _ _ => PyProof.Rows.sortedAll_old) (Nat.le_succ _) ⟨hlen, _, ep, out', he'⟩, rfl, q _ (I.hok.fresh (Nat.le_succ _))⟩
end
theorem reps_zip {K : PySem.W.Frag} {f : Addr} {Z : Hp} : ∀ {vs : List V} {ds : List D}, Reps K f Z vs ds → (vs.zip ds).map Prod.fst = vs ∧ (vs.zip ds).map Prod.snd = ds ∧ ∀ p ∈ vs.zip ds, Rep K f Z p.1 p.2
  | _, _, .nil => ⟨rfl, rfl, fun p h => by cases h⟩
  | _, _, .cons r s => by
    obtain ⟨h1, h2, h3⟩ := reps_zip s
    refine ⟨by simp [h1], by simp [h2], fun p hp => ?_⟩
    rw [List.zip_cons_cons] at hp
    rcases List.mem_cons.mp hp with rfl | hp
    · exact r
    · exact h3 p hp
theorem reps_of_zip {K : PySem.W.Frag} {f : Addr} {Z : Hp} : ∀ {ps : List (V × D)}, (∀ p ∈ ps, Rep K f Z p.1 p.2) → Reps K f Z (ps.map Prod.fst) (ps.map Prod.snd)
  | [], _ => .nil
  | p :: ps, h => .cons (h p List.mem_cons_self) (reps_of_zip fun q hq => h q (List.mem_cons_of_mem _ hq))
theorem sorted_core {c : Ct} {Z H : Hp} {φ : Fd} {a : Addr} {vs : List V} {ds : List D} {Q : VK} {W : WX} {σ : L2.St} (w : Wf c.K c.f Z H φ) (hl : SqL c.K H a vs) (rs : Reps c.K c.f Z vs ds) (ok : okSort ds) (h : Post c .o W (.ok (.lst (sortD ds)) φ) σ Z H Q) : rSortedD c.K [.ref a] H Q := by
  obtain ⟨h1, h2, h3⟩ := reps_zip rs
  obtain ⟨o1, o2, o3⟩ := ok
  have mem : ∀ p ∈ vs.zip ds, p.2 ∈ ds := fun p hp => by rw [← h2]; exact List.mem_map.mpr ⟨p, hp, rfl⟩
  refine ⟨a, (vs.zip ds).map fun p => (p.1, p.2.py), rfl, ?_, ?_, ?_, ?_, ?_, ?_⟩
  · rw [List.map_map]
    show SqL c.K H a ((vs.zip ds).map Prod.fst)
    rw [h1]
    exact hl
  · intro p hp
    obtain ⟨q, hq, rfl⟩ := List.mem_map.mp hp
    exact Dp.mono w.sub (Rep.dp (h3 q hq) (SeqAt.canLay_of_shaped (o2 _ (mem q hq))))
  · intro p hp p' hp'
    obtain ⟨q, hq, rfl⟩ := List.mem_map.mp hp
    obtain ⟨q', hq', rfl⟩ := List.mem_map.mp hp'
    exact o1 _ (mem q hq) _ (mem q' hq')
  · intro p hp
    obtain ⟨q, hq, rfl⟩ := List.mem_map.mp hp
    exact o2 _ (mem q hq)
  · rcases o3 with o3 | o3
    · refine .inl fun d hd => ?_
      obtain ⟨p, hp, rfl⟩ := List.mem_map.mp hd
      obtain ⟨q, hq, rfl⟩ := List.mem_map.mp hp
      obtain ⟨x, r, e⟩ := o3 _ (mem q hq)
      refine ⟨x.py, D.pys r, ?_⟩
      show q.2.py = _
      rw [e]
      rfl
    · refine .inr fun d hd => ?_
      obtain ⟨p, hp, rfl⟩ := List.mem_map.mp hd
      obtain ⟨q, hq, rfl⟩ := List.mem_map.mp hp
      obtain ⟨n1, n2⟩ := o3 _ (mem q hq)
      refine ⟨fun e => n1 ?_, fun xs e => ?_⟩
      · cases hh : q.2 <;> rw [hh] at e <;> first | rfl | (cases e; done)
      · cases hh : q.2 <;> rw [hh] at e <;> first | exact n2 _ hh | (cases e; done)
  · have e : ((vs.zip ds).map fun p => (p.1, p.2.py)).mergeSort leP = ((vs.zip ds).mergeSort fun p q => leD p.2 q.2).map fun p => (p.1, p.2.py) :=
      (List.map_mergeSort (f := fun p : V × D => (p.1, p.2.py)) (r := fun p q => leD p.2 q.2) (s := leP) fun a _ b _ => rfl).symm
    rw [e, List.map_map]
    have e2 : ((vs.zip ds).mergeSort fun p q => leD p.2 q.2).map Prod.snd = sortD ds := by
      have := List.map_mergeSort (f := Prod.snd) (r := fun p q : V × D => leD p.2 q.2) (s := leD) (l := vs.zip ds) fun a _ b _ => rfl
      rw [this, h2]
      rfl
    have rs' : Reps c.K c.f Z (((vs.zip ds).mergeSort fun p q => leD p.2 q.2).map Prod.fst) (sortD ds) := by
      rw [← e2]
      exact reps_of_zip fun p hp => h3 p ((List.mergeSort_perm _ _).mem_iff.mp hp)
    exact h.newO w (.lst rs')
theorem gSorted_ok {c : Ct} : CallG (rSortedD c.K) .o c gSorted := by
  intro Z H φ xs ds z W σ Q w r hg h
  match ds, hg, r with
  | [.lst l], hg, r =>
    obtain ⟨x, rfl, rr⟩ := r.one
    have hg' : (if okSort l then some (D.lst (sortD l)) else none) = some z := hg
    obtain ⟨ok, rfl⟩ := ifs hg'
    obtain ⟨p, vs, rfl, hp, q⟩ := rr.lst w
    exact sorted_core w (SqL.of hp) q ok h

/-! ## comprehensions of two clauses: as expressions, and bound to a name -/
section
variable {X : Cx} {c : Ct} {w : Ow} {own o1 o2 : List Ms} {W : WX} {pos : Pos}
theorem x_lc2 {elt tg iter tg1 iter1 : Expr} {ifs ifs1 : List Expr} {scope : Scope} (nm : List (Str × Nat)) {is is1 : List Nat} (vs1 : List Nat) {I I1 : SA} {T T1 : Tg} {tst tst1 : SB} {elt' : SX} (hc : X.calm = true) (hN : X.N.Nodup) (ok : blkC X.N X.env.scope scope nm = true)
    (hi : IJ X c own true W tg iter I)
    (hg : ∀ (s : Shared) (H : Hp) (C : Addr) (cl : List (Str × Addr)) (fp : List Addr), TJ (X.blk s H scope (compEnvC scope cl C X.env) fp) c (ownB own (nm.map (·.2))) o1 is tg T)
    (ht : ∀ (s : Shared) (H : Hp) (C : Addr) (cl : List (Str × Addr)) (fp : List Addr), PTs (X.blk s H scope (compEnvC scope cl C X.env) fp) ifs (tB c o1 W0 tst))
    (hi1 : ∀ (s : Shared) (H : Hp) (C : Addr) (cl : List (Str × Addr)) (fp : List Addr), IJ (X.blk s H scope (compEnvC scope cl C X.env) fp) c o1 false W0 tg1 iter1 I1)
    (hg1 : ∀ (s : Shared) (H : Hp) (C : Addr) (cl : List (Str × Addr)) (fp : List Addr), TJ (X.blk s H scope (compEnvC scope cl C X.env) fp) c (ownB o1 vs1) o2 is1 tg1 T1)
    (ht1 : ∀ (s : Shared) (H : Hp) (C : Addr) (cl : List (Str × Addr)) (fp : List Addr), PTs (X.blk s H scope (compEnvC scope cl C X.env) fp) ifs1 (tB c o2 W0 tst1))
    (he : ∀ (s : Shared) (H : Hp) (C : Addr) (cl : List (Str × Addr)) (fp : List Addr), EX (X.blk s H scope (compEnvC scope cl C X.env) fp) c o2 .s W0 elt elt')
    (hs : ∀ x, foldedSetIterable iter X.env x = pure x := by intro _; rfl) (hs1 : ∀ env x, foldedSetIterable iter1 env x = pure x := by intro _ _; rfl) (hsub : ∀ j ∈ is, j ∈ nm.map (·.2) := by decide) (hsub1 : ∀ j ∈ is1, j ∈ vs1 := by decide) (hvs : ∀ j ∈ vs1, j ∈ nm.map (·.2) := by decide) :
    EX X c own .o W (.ListComp elt [⟨tg, iter, ifs, 0⟩, ⟨tg1, iter1, ifs1, 0⟩] scope pos) (eLc2 I T tst I1 T1 tst1 elt' (nm.map (·.2)) vs1) :=
  PE.weak (pe_lc2 hc hN hi (blkOk_by ok) hvs hg ht hi1 hg1 ht1 he hs hs1) fun _ _ _ h => lc2_read hsub hsub1 hvs h
theorem s_setLc2 (i : Nat) {y : Str} {py : Pos} {elt tg iter tg1 iter1 : Expr} {ifs ifs1 : List Expr} {scope : Scope} (nm : List (Str × Nat)) {is is1 : List Nat} (vs1 : List Nat) {I I1 : SA} {T T1 : Tg} {tst tst1 : SB} {elt' : SX} {lcp : Pos} (hc : X.calm = true) (hN : X.N.Nodup) (ok : blkC X.N X.env.scope scope nm = true)
    (hi : IJ X c own true w.W tg iter I)
    (hg : ∀ (s : Shared) (H : Hp) (C : Addr) (cl : List (Str × Addr)) (fp : List Addr), TJ (X.blk s H scope (compEnvC scope cl C X.env) fp) c (ownB own (nm.map (·.2))) o1 is tg T)
    (ht : ∀ (s : Shared) (H : Hp) (C : Addr) (cl : List (Str × Addr)) (fp : List Addr), PTs (X.blk s H scope (compEnvC scope cl C X.env) fp) ifs (tB c o1 W0 tst))
    (hi1 : ∀ (s : Shared) (H : Hp) (C : Addr) (cl : List (Str × Addr)) (fp : List Addr), IJ (X.blk s H scope (compEnvC scope cl C X.env) fp) c o1 false W0 tg1 iter1 I1)
    (hg1 : ∀ (s : Shared) (H : Hp) (C : Addr) (cl : List (Str × Addr)) (fp : List Addr), TJ (X.blk s H scope (compEnvC scope cl C X.env) fp) c (ownB o1 vs1) o2 is1 tg1 T1)
    (ht1 : ∀ (s : Shared) (H : Hp) (C : Addr) (cl : List (Str × Addr)) (fp : List Addr), PTs (X.blk s H scope (compEnvC scope cl C X.env) fp) ifs1 (tB c o2 W0 tst1))
    (he : ∀ (s : Shared) (H : Hp) (C : Addr) (cl : List (Str × Addr)) (fp : List Addr), EX (X.blk s H scope (compEnvC scope cl C X.env) fp) c o2 .s W0 elt elt')
    (hy : X.N[i]? = some y := by rfl) (hyl : X.env.scope.names.lookup y = some .local := by rfl) (hsw : swapsWith (.ListComp elt [⟨tg, iter, ifs, 0⟩, ⟨tg1, iter1, ifs1, 0⟩] scope lcp) (some (.Name y py)) pos.line X.env = pure true := by exact sw_true rfl rfl rfl (by decide +kernel))
    (hl : i < own.length := by decide) (hs : ∀ x, foldedSetIterable iter X.env x = pure x := by intro _; rfl) (hs1 : ∀ env x, foldedSetIterable iter1 env x = pure x := by intro _ _; rfl) (hsub : ∀ j ∈ is, j ∈ nm.map (·.2) := by decide) (hsub1 : ∀ j ∈ is1, j ∈ vs1 := by decide) (hvs : ∀ j ∈ vs1, j ∈ nm.map (·.2) := by decide) (ho : w.ox own := by first | exact trivial | rfl) :
    SJ X c w own (own.set i .o) (.Assign [.Name y py] (.ListComp elt [⟨tg, iter, ifs, 0⟩, ⟨tg1, iter1, ifs1, 0⟩] scope lcp) pos) (sSet i (eLc2 I T tst I1 T1 tst1 elt' (nm.map (·.2)) vs1)) := by
  refine PS.weak (ps_setLc2 hc hN hy hyl hsw hi (blkOk_by ok) hvs hg ht hi1 hg1 ht1 he hs hs1) fun Dn σ H h => ?_
  have h2 := set_read (m := .o) i ho (.inl ⟨rfl, hl, rfl⟩) h
  exact lc2_read hsub hsub1 hvs h2
end
end Pf

set_option Elab.async false
set_option linter.all false
set_option maxRecDepth 100000
set_option maxHeartbeats 4000000
namespace Pf
open PySem PySem.Spec PyProof.Rows L2

/-! ## <, <=, >, >= : ints, or data -/
def gLtA (d e : D) : Option D := match d, e with
  | .int i, .int j => some (.bl (decide (i < j)))
  | d, e => gLtD d e
def gLeA (d e : D) : Option D := match d, e with
  | .int i, .int j => some (.bl (decide (i ≤ j)))
  | d, e => gLeD d e
def gGtA (d e : D) : Option D := match d, e with
  | .int i, .int j => some (.bl (decide (j < i)))
  | d, e => gGtD d e
def gGeA (d e : D) : Option D := match d, e with
  | .int i, .int j => some (.bl (decide (j ≤ i)))
  | d, e => gGeD d e
def rOr (r r' : R2) : R2 := fun x y H Q => r x y H Q ∨ r' x y H Q
section
variable {X : Cx} {c : Ct} {own : List Ms} {m : Md} {W : WX} {a b : Expr} {A B : SX} {pos : Pos}
theorem cmpA_ok {f : Int → Int → Bool} {g : D → D → Option D} {r : R2} (hg : OpG r m c g) : OpG (rOr (rI0 fun i j => .bl (f i j)) r) m c (fun d e => match d, e with | .int i, .int j => some (.bl (f i j)) | d, e => g d e) := by
  intro Z H φ x y d e z W σ Q w rx ry h0 h
  have other : (g d e = some z) → rOr (rI0 fun i j => .bl (f i j)) r x y H Q := fun h1 => .inr (hg Z H φ x y d e z W σ Q w rx ry h1 h)
  cases d with
  | int i =>
    cases e with
    | int j => cases h0; exact .inl ⟨i, j, rx.int, ry.int, h.nowB w⟩
    | _ => exact other h0
  | _ => exact other h0
theorem gLtA_ok : OpG (rOr (rI0 fun i j => .bl (decide (i < j))) (rCmpD c.K fun d e => PySem.W.dataLt d e)) m c gLtA := cmpA_ok gLtD_ok
theorem gLeA_ok : OpG (rOr (rI0 fun i j => .bl (decide (i ≤ j))) (rCmpD c.K fun d e => !PySem.W.dataLt e d)) m c gLeA := cmpA_ok gLeD_ok
theorem gGtA_ok : OpG (rOr (rI0 fun i j => .bl (decide (j < i))) (rCmpD c.K fun d e => PySem.W.dataLt e d)) m c gGtA := cmpA_ok gGtD_ok
theorem gGeA_ok : OpG (rOr (rI0 fun i j => .bl (decide (j ≤ i))) (rCmpD c.K fun d e => !PySem.W.dataLt d e)) m c gGeA := cmpA_ok gGeD_ok
theorem op_ltA (hu : X.A.units + 64 < cLine) : OpR X (compareOp .Lt) (rOr (rI0 fun i j => .bl (decide (i < j))) (rCmpD X.K fun d e => PySem.W.dataLt d e)) := OpR.or op_lt (op_ltD hu)
theorem op_leA (hu : X.A.units + 64 < cLine) : OpR X (compareOp .LtE) (rOr (rI0 fun i j => .bl (decide (i ≤ j))) (rCmpD X.K fun d e => !PySem.W.dataLt e d)) := OpR.or op_le (op_leD hu)
theorem op_gtA (hu : X.A.units + 64 < cLine) : OpR X (compareOp .Gt) (rOr (rI0 fun i j => .bl (decide (j < i))) (rCmpD X.K fun d e => PySem.W.dataLt e d)) := OpR.or op_gt (op_gtD hu)
theorem op_geA (hu : X.A.units + 64 < cLine) : OpR X (compareOp .GtE) (rOr (rI0 fun i j => .bl (decide (j ≤ i))) (rCmpD X.K fun d e => !PySem.W.dataLt d e)) := OpR.or op_ge (op_geD hu)
theorem x_ltA (hK : X.K = c.K) (hu : X.A.units + 64 < cLine) (ha : EX X c own .p W a A) (hb : EX X c own .p W b B) : EX X c own .o W (.Compare a [.Lt] [b] pos) (eBin gLtA A B) := x_cmp (op_ltA hu) (by rw [hK]; exact gLtA_ok) ha hb (nomark _)
theorem x_leA (hK : X.K = c.K) (hu : X.A.units + 64 < cLine) (ha : EX X c own .p W a A) (hb : EX X c own .p W b B) : EX X c own .o W (.Compare a [.LtE] [b] pos) (eBin gLeA A B) := x_cmp (op_leA hu) (by rw [hK]; exact gLeA_ok) ha hb (nomark _)
theorem x_gtA (hK : X.K = c.K) (hu : X.A.units + 64 < cLine) (ha : EX X c own .p W a A) (hb : EX X c own .p W b B) : EX X c own .o W (.Compare a [.Gt] [b] pos) (eBin gGtA A B) := x_cmp (op_gtA hu) (by rw [hK]; exact gGtA_ok) ha hb (nomark _)
theorem x_geA (hK : X.K = c.K) (hu : X.A.units + 64 < cLine) (ha : EX X c own .p W a A) (hb : EX X c own .p W b B) : EX X c own .o W (.Compare a [.GtE] [b] pos) (eBin gGeA A B) := x_cmp (op_geA hu) (by rw [hK]; exact gGeA_ok) ha hb (nomark _)
theorem b_ltA (hK : X.K = c.K) (hu : X.A.units + 64 < cLine) (ha : EX X c own .p W a A) (hb : EX X c own .p W b B) : BX X c own W (.Compare a [.Lt] [b] pos) (bCmp gLtA A B) := b_cmp (op_ltA hu) (by rw [hK]; exact gLtA_ok) ha hb (nomark _)
theorem b_leA (hK : X.K = c.K) (hu : X.A.units + 64 < cLine) (ha : EX X c own .p W a A) (hb : EX X c own .p W b B) : BX X c own W (.Compare a [.LtE] [b] pos) (bCmp gLeA A B) := b_cmp (op_leA hu) (by rw [hK]; exact gLeA_ok) ha hb (nomark _)
theorem b_gtA (hK : X.K = c.K) (hu : X.A.units + 64 < cLine) (ha : EX X c own .p W a A) (hb : EX X c own .p W b B) : BX X c own W (.Compare a [.Gt] [b] pos) (bCmp gGtA A B) := b_cmp (op_gtA hu) (by rw [hK]; exact gGtA_ok) ha hb (nomark _)
theorem b_geA (hK : X.K = c.K) (hu : X.A.units + 64 < cLine) (ha : EX X c own .p W a A) (hb : EX X c own .p W b B) : BX X c own W (.Compare a [.GtE] [b] pos) (bCmp gGeA A B) := b_cmp (op_geA hu) (by rw [hK]; exact gGeA_ok) ha hb (nomark _)

/-! ## the built-ins by name -/
variable {e e2 : Expr} {p : Pos} {S : SA}
theorem x_len (hK : X.K = c.K) (hm : X.mg "len" = none) (ha : AX X c own .p W [e] S) (hg : Gl X "len" := by rfl) (he : starEach [e] X.env = (false, eval e X.env) :: starEach [] X.env := by rfl) (hpl : (backTo pos (starEach [] X.env)).any (·.1) = false := by rfl) :
    EX X c own .o W (.Call (.Name "len" p) [e] [] pos) (eCB gLen S) := x_callB call_len (by rw [hK]; exact gLen_ok) hm PySem.boot_len ha hg (by decide) (by decide) he hpl
theorem x_sum (hK : X.K = c.K) (hc : X.calm = true) (hm : X.mg "sum" = none) (ha : AX X c own .p W [e] S) (hg : Gl X "sum" := by rfl) (he : starEach [e] X.env = (false, eval e X.env) :: starEach [] X.env := by rfl) (hpl : (backTo pos (starEach [] X.env)).any (·.1) = false := by rfl) :
    EX X c own .o W (.Call (.Name "sum" p) [e] [] pos) (eCB gSum S) := x_callB (cr_sum hc) (by rw [hK]; exact gSum_ok) hm (by decide +kernel) ha hg (by decide) (by decide) he hpl
theorem x_any (hK : X.K = c.K) (hc : X.calm = true) (hm : X.mg "any" = none) (ha : AX X c own .p W [e] S) (hg : Gl X "any" := by rfl) (he : starEach [e] X.env = (false, eval e X.env) :: starEach [] X.env := by rfl) (hpl : (backTo pos (starEach [] X.env)).any (·.1) = false := by rfl) :
    EX X c own .o W (.Call (.Name "any" p) [e] [] pos) (eCB gAny S) := x_callB (cr_any hc) (by rw [hK]; exact gAny_ok) hm (by decide +kernel) ha hg (by decide) (by decide) he hpl
theorem x_all (hK : X.K = c.K) (hc : X.calm = true) (hm : X.mg "all" = none) (ha : AX X c own .p W [e] S) (hg : Gl X "all" := by rfl) (he : starEach [e] X.env = (false, eval e X.env) :: starEach [] X.env := by rfl) (hpl : (backTo pos (starEach [] X.env)).any (·.1) = false := by rfl) :
    EX X c own .o W (.Call (.Name "all" p) [e] [] pos) (eCB gAll S) := x_callB (cr_all hc) (by rw [hK]; exact gAll_ok) hm (by decide +kernel) ha hg (by decide) (by decide) he hpl
theorem x_max1 (hK : X.K = c.K) (hc : X.calm = true) (hm : X.mg "max" = none) (ha : AX X c own .p W [e] S) (hg : Gl X "max" := by rfl) (he : starEach [e] X.env = (false, eval e X.env) :: starEach [] X.env := by rfl) (hpl : (backTo pos (starEach [] X.env)).any (·.1) = false := by rfl) :
    EX X c own .o W (.Call (.Name "max" p) [e] [] pos) (eCB gMax1 S) := x_callB (cr_max hc) (by rw [hK]; exact gMax1_ok) hm (by decide +kernel) ha hg (by decide) (by decide) he hpl
theorem x_min1 (hK : X.K = c.K) (hc : X.calm = true) (hm : X.mg "min" = none) (ha : AX X c own .p W [e] S) (hg : Gl X "min" := by rfl) (he : starEach [e] X.env = (false, eval e X.env) :: starEach [] X.env := by rfl) (hpl : (backTo pos (starEach [] X.env)).any (·.1) = false := by rfl) :
    EX X c own .o W (.Call (.Name "min" p) [e] [] pos) (eCB gMin1 S) := x_callB (cr_min hc) (by rw [hK]; exact gMin1_ok) hm (by decide +kernel) ha hg (by decide) (by decide) he hpl
theorem x_max2 (hc : X.calm = true) (hm : X.mg "max" = none) (ha : AX X c own .p W [e, e2] S) (hg : Gl X "max" := by rfl) (he : starEach [e, e2] X.env = (false, eval e X.env) :: starEach [e2] X.env := by rfl) (hpl : (backTo pos (starEach [e2] X.env)).any (·.1) = false := by rfl) :
    EX X c own .o W (.Call (.Name "max" p) [e, e2] [] pos) (eCB gMax2 S) := x_callB (call_max2 hc) gMax2_ok hm (by decide +kernel) ha hg (by decide) (by decide) he hpl
theorem x_min2 (hc : X.calm = true) (hm : X.mg "min" = none) (ha : AX X c own .p W [e, e2] S) (hg : Gl X "min" := by rfl) (he : starEach [e, e2] X.env = (false, eval e X.env) :: starEach [e2] X.env := by rfl) (hpl : (backTo pos (starEach [e2] X.env)).any (·.1) = false := by rfl) :
    EX X c own .o W (.Call (.Name "min" p) [e, e2] [] pos) (eCB gMin2 S) := x_callB (call_min2 hc) gMin2_ok hm (by decide +kernel) ha hg (by decide) (by decide) he hpl
theorem x_abs (hm : X.mg "abs" = none) (ha : AX X c own .p W [e] S) (hg : Gl X "abs" := by rfl) (he : starEach [e] X.env = (false, eval e X.env) :: starEach [] X.env := by rfl) (hpl : (backTo pos (starEach [] X.env)).any (·.1) = false := by rfl) :
    EX X c own .o W (.Call (.Name "abs" p) [e] [] pos) (eCB gAbs S) := x_callB call_abs gAbs_ok hm (by decide +kernel) ha hg (by decide) (by decide) he hpl
theorem x_list (hK : X.K = c.K) (hm : X.mg "list" = none) (ha : AX X c own .p W [e] S) (hg : Gl X "list" := by rfl) (he : starEach [e] X.env = (false, eval e X.env) :: starEach [] X.env := by rfl) (hpl : (backTo pos (starEach [] X.env)).any (·.1) = false := by rfl) :
    EX X c own .o W (.Call (.Name "list" p) [e] [] pos) (eCB gList S) := x_callT call_list_of (by rw [hK]; exact gList_ok) hm (by decide +kernel) ha hg (by decide) (by decide) he hpl
theorem x_tuple (hK : X.K = c.K) (hm : X.mg "tuple" = none) (ha : AX X c own .p W [e] S) (hg : Gl X "tuple" := by rfl) (he : starEach [e] X.env = (false, eval e X.env) :: starEach [] X.env := by rfl) (hpl : (backTo pos (starEach [] X.env)).any (·.1) = false := by rfl) :
    EX X c own .o W (.Call (.Name "tuple" p) [e] [] pos) (eCB gTuple S) := x_callT call_tuple_of (by rw [hK]; exact gTuple_ok) hm (by decide +kernel) ha hg (by decide) (by decide) he hpl
theorem x_int1 (hm : X.mg "int" = none) (ha : AX X c own .p W [e] S) (hg : Gl X "int" := by rfl) (he : starEach [e] X.env = (false, eval e X.env) :: starEach [] X.env := by rfl) (hpl : (backTo pos (starEach [] X.env)).any (·.1) = false := by rfl) :
    EX X c own .o W (.Call (.Name "int" p) [e] [] pos) (eCB gInt S) := x_callT call_int1 gInt_ok hm (by decide +kernel) ha hg (by decide) (by decide) he hpl
theorem x_sorted (hK : X.K = c.K) (hu : X.A.units + 66 < cLine) (hm : X.mg "sorted" = none) (ha : AX X c own .p W [e] S) (hg : Gl X "sorted" := by rfl) (he : starEach [e] X.env = (false, eval e X.env) :: starEach [] X.env := by rfl) (hpl : (backTo pos (starEach [] X.env)).any (·.1) = false := by rfl) :
    EX X c own .o W (.Call (.Name "sorted" p) [e] [] pos) (eCB gSorted S) := x_callB (cr_sortedD hu) (by rw [hK]; exact gSorted_ok) hm (by decide +kernel) ha hg (by decide) (by decide) he hpl
end
theorem hu64 {k : Nat} {A : Around} (r : Room k A) : A.units + 64 < cLine := r.units
theorem hu65 {k : Nat} {A : Around} (r : Room k A) : A.units + 65 < cLine := by have := r.un; omega
theorem hu66 {k : Nat} {A : Around} (r : Room k A) : A.units + 66 < cLine := by have := r.un; omega
end Pf

set_option Elab.async false
set_option linter.all false
set_option maxRecDepth 100000
set_option maxHeartbeats 4000000
namespace Pf
open PySem PySem.Spec PyProof.Rows L2

/-! ## what is looked at with more frozen than stays frozen: answers that are flat -/
theorem Wf.back {K : PySem.W.Frag} {f : Addr} {Z Z1 Z' H H' : Hp} {φ φ1 : Fd} (w : Wf K f Z H φ) (k : Sub Z Z1) (e : Ext f Z1 H Z' H') (w' : Wf K f Z' H' φ1) : Ext f Z H Z H' ∧ Wf K f Z H' φ1 := by
  refine ⟨⟨fun _ _ q => q, e.h, e.k, fun _ _ q => q, e.d⟩, ⟨fun a o q => e.h a o (fun z => by rw [z, w.zf] at q; cases q) (w.sub a o q), w.zf, ?_, w'.ok⟩⟩
  obtain ⟨s, h1, h2⟩ := w.feed
  obtain ⟨s', h1', h2'⟩ := w'.feed
  obtain ⟨o', h3, hr⟩ := e.d _ h2
  rw [h2'] at h3
  cases h3
  refine ⟨s', ?_, h2'⟩
  rcases h1' with h1' | ⟨k1, k2⟩
  · exact .inl h1'
  · rcases h1 with ⟨_, h1⟩ | ⟨g1, g2⟩
    · rcases hr with hr | ⟨x, vs, us, hr, _⟩
      · exact absurd (hr.symm.trans k2) (h1 _ _)
      · exact absurd hr (h1 _ _)
    · have hs : s'.1 = s.1 := by
        rcases hr with hr | ⟨x, vs, us, hr, hr'⟩
        · rw [k2, g2] at hr; injection hr with hr; injection hr with hr _; injection hr
        · rw [g2] at hr; rw [k2] at hr'; injection hr with hr; injection hr with hr _; injection hr' with hr'; injection hr' with hr' _; rw [← hr'] at hr; injection hr with hr; exact hr.symm
      refine .inr ⟨?_, k2⟩
      have h4 := e.z _ _ (k _ _ g1)
      rw [hs] at k1 ⊢
      rw [h4] at k1
      rw [g1, Option.some.inj k1]
def bStill (A : SB) : SB := fun ρ φ => (A ρ φ).still
def D.flatB : D → Bool
  | .non => true
  | .bl _ => true
  | .int _ => true
  | .str _ => true
  | _ => false
def eStill (A : SX) : SX := fun ρ φ => match A ρ φ with
  | .ok d φ1 => if d.flatB = true then .ok d φ1 else .bad
  | _ => .bad
theorem Rep.flatB {K : PySem.W.Frag} {f : Addr} {Z Z' : Hp} {v : V} {d : D} (r : Rep K f Z v d) (h : d.flatB = true) : Rep K f Z' v d := by
  cases r with
  | non => exact .non
  | bl b => exact .bl b
  | int b => exact .int b
  | str b => exact .str b
  | cel _ q => cases q <;> cases h
  | tup _ _ => cases h
  | feed => cases h
  | fnv _ => cases h
  | exn => cases h
theorem D.flatB_mt {d : D} (h : d.flatB = true) : d.mt = false := by cases d <;> first | rfl | cases h
section
variable {X : Cx} {c : Ct} {own : List Ms} {m : Md} {W : WX}
theorem b_scope (is : List Nat) (hp : ∀ i ∈ is, own[i]? ≠ some .p) {e : Expr} {A : SB} (h : BX X c (is.foldr (fun i o => o.set i .s) own) W0 e A) : BX X c own W e (bStill A) := by
  refine PT.weak h ?_
  rintro σ H Q ⟨Z, ρ, φ, R, h⟩
  obtain ⟨Z1, k, R1⟩ := R.frzs is hp
  refine ⟨Z1, ρ, φ, R1, ?_⟩
  unfold bStill at h
  cases hA : A ρ φ with
  | bad => rw [hA] at h; exact h.elim
  | ex _ _ _ => rw [hA] at h; exact h.elim
  | ok b φ1 =>
    rw [hA] at h
    intro Z' H' e' w'
    obtain ⟨e2, w2⟩ := R.wf.back k e' w'
    exact h Z H' e2 w2
theorem x_scope (is : List Nat) (hp : ∀ i ∈ is, own[i]? ≠ some .p) {e : Expr} {A : SX} {m' : Md} (h : EX X c (is.foldr (fun i o => o.set i .s) own) m' W0 e A) : EX X c own m W e (eStill A) := by
  refine PE.weak h ?_
  rintro σ H Q ⟨Z, ρ, φ, R, h⟩
  obtain ⟨Z1, k, R1⟩ := R.frzs is hp
  refine ⟨Z1, ρ, φ, R1, ?_⟩
  unfold eStill at h
  cases hA : A ρ φ with
  | bad => rw [hA] at h; exact h.elim
  | ex _ _ _ => rw [hA] at h; exact h.elim
  | ok d φ1 =>
    rw [hA] at h
    intro v Z' H' e' w' r
    have h' : Post c m W (if d.flatB = true then .ok d φ1 else .bad) σ Z H Q := h
    by_cases hf : d.flatB = true
    · rw [if_pos hf] at h'
      obtain ⟨e2, w2⟩ := R.wf.back k e' w'
      exact h' v Z H' e2 w2 (Res.of_flat ((r.flat (D.flatB_mt hf)).flatB hf) (D.flatB_mt hf))
    · rw [if_neg hf] at h'
      exact h'.elim
end

/-! ## the law's own feed; a def that calls itself -/
section
variable {P : Program} {w : World} {K : PySem.W.Frag} {mg : Str → Option Value} {base : Heap}
theorem feed_read {vs : List V} {H : Hp} {Q : VK} {E : XK} (h : spFeed K vs H Q E) :
    tSeq (tRet (tLst (tCons (tCB (fun xs H Q => ∃ p ys, xs = [.ref p] ∧ (SqL K H p ys ∨ SqT K H p ys) ∧ ∀ l, H l = none → Q (.ref l) (upd H l (.lst ys))) (tCons (tVar 0) tNil)) (tCons (tC (.int 0)) (tCons (tC (.int 0)) (tCons (tC (.int 1)) tNil)))))) tNext { nx := fun _ H' => Q .non H', rt := Q } (L2.start ["script"] vs) H := by
  obtain ⟨a, ns, rfl, hs, q⟩ := h
  refine ⟨.ref a, rfl, a, ns.map V.int, rfl, .inl hs, fun l hl => ?_⟩
  refine ⟨show 4 ≤ sizeLine by decide, fun p hp => ?_⟩
  have hpl : p ≠ l := fun e => by rw [e, upd_same] at hp; cases hp
  rw [upd_ne hpl] at hp
  exact q l p hl hp hpl
/-- at the bottom of a recursion -/
theorem fn_bad {cls : Str → Option (Addr × List Str)} {f : Addr} {fd : FuncData} {ps : List Str} {k : Nat} {pm : List Bool} (m : Md) : FnOk P w K mg base (L2N.CX P w) k f fd ps (spF cls K pm m fun _ _ => .bad) :=
  have no : ∀ {vs : List V} {H : Hp} {Q : VK} {E : XK}, spF cls K pm m (fun _ _ => .bad) vs H Q E → False := fun h => by
    obtain ⟨f, Z, ds, φ, _, rs, h⟩ := h
    exact h
  ⟨fun _ _ _ _ h => (no h).elim, fun _ _ _ _ _ _ _ _ _ _ _ _ _ h => (no h).elim⟩
end

/-! ## a part of a body as a body of its own: what stood ahead is only looked at; behind it, what the part has made is forgotten, but for flat data -/
def subC (c : Ct) (Z : Hp) (ρ : En) (σ : L2.St) (H : Hp) : Ct := ⟨c.K, c.f, Z, H, c.cls, σ, ρ⟩
def Ms.inn : Ms → Ms
  | .o => .p
  | .p => .p
  | .s => .r
  | .r => .r
def Ms.pin : Option Ms → Bool
  | some .p => true
  | some .r => true
  | _ => false
def ownIn (own : List Ms) : List Ms := own.map Ms.inn
def ownOut (own own1 : List Ms) : List Ms := own.mapIdx fun i m => if Ms.pin own1[i]? = true then m else .s
def flatO : Option D → Option D
  | some d => if d.flatB = true then some d else none
  | none => none
def enOut (own1 : List Ms) (ρ : En) : En := ρ.mapIdx fun i x => if Ms.pin own1[i]? = true then x else flatO x
theorem pin_iff {x : Option Ms} : Ms.pin x = true ↔ x = some .p ∨ x = some .r := by
  rcases x with _ | (_ | _ | _ | _) <;> simp [Ms.pin]
theorem Rl.enter {c : Ct} {own : List Ms} {Z : Hp} {ρ : En} {φ : Fd} {σ : L2.St} {H : Hp} (R : Rl c own Z ρ φ σ H) : Rl (subC c Z ρ σ H) (ownIn own) Z ρ φ σ H := by
  have get : ∀ {i : Nat} {x : Ms}, (ownIn own)[i]? = some x → ∃ y, own[i]? = some y ∧ x = y.inn := fun {i x} h => by
    unfold ownIn at h
    rw [List.getElem?_map] at h
    cases e : own[i]? with
    | none => rw [e] at h; cases h
    | some y => rw [e] at h; cases h; exact ⟨y, rfl, rfl⟩
  have put : ∀ {i : Nat} {y : Ms}, own[i]? = some y → (ownIn own)[i]? = some y.inn := fun {i y} h => by
    unfold ownIn
    rw [List.getElem?_map, h] <;> rfl
  have no : ∀ {i : Nat}, (ownIn own)[i]? ≠ some .o := fun {i} h => by
    obtain ⟨y, _, e⟩ := get h
    cases y <;> cases e
  refine ⟨R.wf, Ext.refl, R.len, fun i d h1 _ h3 => ?_, fun i d _ h2 => absurd h2 no, fun i j a d e _ h1 => absurd h1 no, fun i d h1 _ => ⟨h1, rfl⟩, fun i d h1 _ => R.look h1⟩
  exact R.sh i d h1 (fun e => h3 (put e)) (fun e => h3 (put e))
theorem Rl.leave {c : Ct} {own own1 : List Ms} {Z0 Z1 : Hp} {ρ0 ρ1 : En} {φ0 φ1 : Fd} {σ0 σ1 : L2.St} {H0 H1 : Hp} (R0 : Rl c own Z0 ρ0 φ0 σ0 H0) (R1 : Rl (subC c Z0 ρ0 σ0 H0) own1 Z1 ρ1 φ1 σ1 H1) :
    Rl c (ownOut own own1) Z0 (enOut own1 ρ1) φ1 σ1 H1 := by
  obtain ⟨e2, w2⟩ := R0.wf.back Sub.refl R1.ext R1.wf
  have getE : ∀ {i : Nat} {d : D}, (enOut own1 ρ1)[i]? = some (some d) → ρ1[i]? = some (some d) ∧ (Ms.pin own1[i]? = true ∨ (Ms.pin own1[i]? = false ∧ d.flatB = true)) := fun {i d} h => by
    unfold enOut at h
    rw [List.getElem?_mapIdx] at h
    cases e : ρ1[i]? with
    | none => rw [e] at h; cases h
    | some x =>
      rw [e] at h
      have h' : (if Ms.pin own1[i]? = true then x else flatO x) = some d := Option.some.inj h
      by_cases hp : Ms.pin own1[i]? = true
      · rw [if_pos hp] at h'
        rw [h']
        exact ⟨rfl, .inl hp⟩
      · rw [if_neg hp] at h'
        cases x with
        | none => cases h'
        | some y =>
          have h'' : (if y.flatB = true then some y else none) = some d := h'
          by_cases hf : y.flatB = true
          · rw [if_pos hf] at h''
            cases h''
            exact ⟨rfl, .inr ⟨by simpa using hp, hf⟩⟩
          · rw [if_neg hf] at h''; cases h''
  have getO : ∀ {i : Nat} {x : Ms}, (ownOut own own1)[i]? = some x → (Ms.pin own1[i]? = true ∧ own[i]? = some x) ∨ (Ms.pin own1[i]? = false ∧ x = .s) := fun {i x} h => by
    unfold ownOut at h
    rw [List.getElem?_mapIdx] at h
    cases e : own[i]? with
    | none => rw [e] at h; cases h
    | some y =>
      rw [e] at h
      have h' : (if Ms.pin own1[i]? = true then y else .s) = x := Option.some.inj h
      by_cases hp : Ms.pin own1[i]? = true
      · rw [if_pos hp] at h'; exact .inl ⟨hp, by rw [h']⟩
      · rw [if_neg hp] at h'; exact .inr ⟨by simpa using hp, h'.symm⟩
  have putO : ∀ {i : Nat} {x : Ms}, Ms.pin own1[i]? = true → own[i]? = some x → (ownOut own own1)[i]? = some x := fun {i x} hp h => by
    unfold ownOut
    rw [List.getElem?_mapIdx, h]
    show some (if Ms.pin own1[i]? = true then x else .s) = some x
    rw [if_pos hp]
  have pins : ∀ {i : Nat} {d : D}, Ms.pin own1[i]? = true → ρ1[i]? = some (some d) → ρ0[i]? = some (some d) ∧ σ1[i]? = σ0[i]? := fun {i d} hp h => R1.pn i d h (pin_iff.mp hp)
  refine ⟨w2, R0.ext.trans e2, ?_, fun i d h1 h2 h3 => ?_, fun i d h1 h2 => ?_, fun i j a d e hij h1 h2 h3 h4 h5 h6 h7 h8 => ?_, fun i d h1 h2 => ?_, fun i d h1 h2 => ?_⟩
  · unfold enOut
    rw [List.length_mapIdx]
    exact R1.len
  · obtain ⟨g1, g2⟩ := getE h1
    rcases g2 with hp | ⟨hp, hf⟩
    · obtain ⟨k1, k2⟩ := pins hp g1
      obtain ⟨v, hv, r⟩ := R0.sh i d k1 (fun e => h2 (putO hp e)) (fun e => h3 (putO hp e))
      exact ⟨v, by rw [k2]; exact hv, r⟩
    · by_cases ho : own1[i]? = some .o
      · obtain ⟨v, hv, r⟩ := R1.ow i d g1 ho
        exact ⟨v, hv, (r.flat (D.flatB_mt hf)).flatB hf⟩
      · have hpp : own1[i]? ≠ some .p := fun e => by rw [e] at hp; cases hp
        obtain ⟨v, hv, r⟩ := R1.sh i d g1 ho hpp
        exact ⟨v, hv, r.flatB hf⟩
  · rcases getO h2 with ⟨hp, ho⟩ | ⟨_, e⟩
    · obtain ⟨g1, _⟩ := getE h1
      obtain ⟨k1, k2⟩ := pins hp g1
      obtain ⟨v, hv, r⟩ := R0.ow i d k1 ho
      exact ⟨v, by rw [k2]; exact hv, r.mono e2⟩
    · cases e
  · rcases getO h1 with ⟨hp, ho⟩ | ⟨_, q⟩
    · rcases getO h2 with ⟨hp', ho'⟩ | ⟨_, q⟩
      · obtain ⟨k1, k2⟩ := pins hp (getE h3).1
        obtain ⟨k3, k4⟩ := pins hp' (getE h5).1
        rw [k2] at h7
        rw [k4] at h8
        exact R0.ne i j a d e hij ho ho' k1 h4 k3 h6 h7 h8
      · cases q
    · cases q
  · obtain ⟨g1, _⟩ := getE h1
    have hh : Ms.pin own1[i]? = true ∧ (own[i]? = some .p ∨ own[i]? = some .r) := by
      rcases h2 with h2 | h2 <;> rcases getO h2 with ⟨hp, ho⟩ | ⟨_, q⟩
      · exact ⟨hp, .inl ho⟩
      · cases q
      · exact ⟨hp, .inr ho⟩
      · cases q
    obtain ⟨k1, k2⟩ := pins hh.1 g1
    obtain ⟨n1, n2⟩ := R0.pn i d k1 hh.2
    exact ⟨n1, by rw [k2]; exact n2⟩
  · rcases getO h2 with ⟨hp, ho⟩ | ⟨_, q⟩
    · obtain ⟨g1, _⟩ := getE h1
      obtain ⟨k1, k2⟩ := pins hp g1
      obtain ⟨v, hv, r⟩ := R0.pk i d k1 ho
      exact ⟨v, by rw [k2]; exact hv, r⟩
    · cases q
theorem execs_app {env : Env} : ∀ (a b : List Stmt), execs (a ++ b) env = (do match ← execs a env with | .next => execs b env | f => pure f)
  | [], b => by
    show execs b env = _
    rw [show execs [] env = pure Flow.next from rfl, pure_bind]
  | st :: a, b => by
    rw [List.cons_append, execs_cons, execs_cons, bind_assoc]
    refine congrArg (bind _) (funext fun f => ?_)
    cases f with
    | next => exact execs_app a b
    | _ => rw [pure_bind]
theorem pss_app {X : Cx} {a b : List Stmt} {t u : TS} (h1 : PSs X a t) (h2 : PSs X b u) : PSs X (a ++ b) (tSeq t u) := by
  refine ⟨fun pins s σ H D I h => ?_⟩
  rw [execs_app]
  refine wpAny_bind (thn (h1.run pins s σ H { D with nx := u D } I h) fun f s1 q => ?_)
  cases f with
  | next =>
    obtain ⟨σ', H', I', q⟩ := q
    exact h2.run pins s1 σ' H' D I' q
  | ret v => exact wpAny_pure q
  | brk => exact wpAny_pure q
  | cont => exact wpAny_pure q
def sScope (own1 : List Ms) (A B : SS) : SS := fun ρ φ => match A ρ φ with
  | .nx ρ1 φ1 => B (enOut own1 ρ1) φ1
  | .rt d φ1 => .rt d φ1
  | _ => .bad
section
variable {X : Cx} {c : Ct} {w : Ow} {own own1 on : List Ms}
theorem s_scope (n : Nat) {sts : List Stmt} {A B : SS} (h1 : ∀ (Z : Hp) (ρ : En) (σ : L2.St) (H : Hp), SJs X (subC c Z ρ σ H) ⟨w.m, W0, fun _ => True, []⟩ (ownIn own) own1 (sts.take n) A) (h2 : SJs X c w (ownOut own own1) on (sts.drop n) B) :
    SJs X c w own on sts (sScope own1 A B) := by
  have D1 := PSs.later (ι := Hp × En × L2.St × Hp) fun i => h1 i.1 i.2.1 i.2.2.1 i.2.2.2
  have D2 := pss_app D1 h2
  rw [List.take_append_drop] at D2
  refine PSs.weak D2 ?_
  rintro Dn σ H ⟨Z, ρ, φ, R0, h⟩
  refine ⟨(Z, ρ, σ, H), Z, ρ, φ, R0.enter, ?_⟩
  unfold sScope at h
  cases hA : A ρ φ with
  | nx ρ1 φ1 =>
    rw [hA] at h
    intro σ1 Z1 H1 k R1
    exact ⟨Z, enOut own1 ρ1, φ1, R0.leave R1, h⟩
  | rt d φ1 =>
    rw [hA] at h
    intro v Z' H' e' w' r
    exact h v Z' H' (R0.ext.trans e') w' (Res.start r R0.ext.k)
  | bk _ _ => rw [hA] at h; exact h.elim
  | ct _ _ => rw [hA] at h; exact h.elim
  | ex _ _ _ _ => rw [hA] at h; exact h.elim
  | bad => rw [hA] at h; exact h.elim
end
end Pf

set_option Elab.async false
set_option linter.all false
set_option maxRecDepth 100000
set_option maxHeartbeats 4000000

/-! ## max and min of two things that are compared as data -/
namespace PySem.W
open PySem PyProof.Rows
section
variable {prog : Program} {w : World} {A : Around} {E : Value → Shared → Prop} {s : Shared}
theorem call_max_twoH {a b : Value} {d e : PyData} {as bs : List Addr} {Q : Value → Shared → Prop} (hh : A.handled = none) (ra : Reads s.heap a d as) (rb : Reads s.heap b e bs)
    (al : AlikeAll [d, e]) (hu : A.units + 1 + PyData.depthAll [d, e] < cLine)
    (h : ∀ h' tk, (∀ c o, s.heap.get? c = some o → h'.get? c = some o) → Q (if dataLt d e then b else a) { s with heap := h', toks := tk }) :
    wpAny (model prog w) A (call (.builtin "max") [a, b]) Q E s := by
  have hname : (toString "max" ++ toString ".loop" : String) = "max.loop" := by decide
  have hT : (s.heap.push { cls := .type "tuple", data := .seq #[a, b] }).IsTuple s.heap.objs.size #[a, b] := ⟨_, Heap.get?_push_size _ rfl, rfl, 0, rfl⟩
  have old : ∀ c o, s.heap.get? c = some o → (s.heap.push { cls := .type "tuple", data := .seq #[a, b] }).get? c = some o := fun c o e => Heap.get?_push_of_some _ e
  have hr : ReadsAll (s.heap.push { cls := .type "tuple", data := .seq #[a, b] }) [a, b] [d, e] (as ++ (bs ++ [])) := .cons (reads_keeps old ra) (.cons (reads_keeps old rb) .nil)
  refine call_function_tree F.kind_max F.plain_max F.entry_max (F.args_max2 _ _) ?_
  show wpAny _ A.in1 (Builtin.Builtins.bindParams "max" ["key", "default"] 0 ⟨[], []⟩ >>= _) _ _ s
  refine wpAny_bind (wpAny_of_eq (show Builtin.Builtins.bindParams "max" ["key", "default"] 0 ⟨[], []⟩ = pure [none, none] from rfl) ?_)
  show wpAny _ A.in1 (newTuple [a, b] >>= _) _ _ s
  refine wpAny_bind (wpAny_newObj_type ?_)
  refine wpAny_bind (iter_tupleW (A := A.in1) hh hT fun s₂ e2 W hst hfp hw hk => ?_)
  refine wpAny_bind (wpAny_newObj_type ?_)
  have hSf : s₂.heap.objs.size ∉ _ := fun hm => Nat.lt_irrefl _ (hfp _ hm)
  rw [hname]
  refine wpAny_pure ⟨plainId_quiet F.plain_max_loop _, codeAny_max_loop_firstH W _ hw _ (cmpIn_gt (A := A.in1) hr al (by show A.units + 1 + _ < _; exact hu)) s₂.heap.objs.size hSf (fresh_in hk) _ (show 0 < 2 by decide) (fun b o e => Heap.get?_push_of_some _ (hk b o e)) (W.frame 0 s₂ _ s₂.toks hst (Nat.le_refl _) fun b _ o e => Heap.get?_push_of_some _ e) (Heap.get?_push_size _ rfl) fun v s' hP hm => ?_⟩
  obtain ⟨h', tk, rfl, hk'⟩ := moved_old e2 rfl (Moved.drop_new (tk := s₂.toks) hm (Nat.le_refl _))
  have hv : v = if dataLt d e then b else a := by
    cases hc : dataLt d e <;> simp [argBest, hc] at hP <;> simp [hP]
  rw [hv]
  exact h h' tk fun c o e => hk' c o (old c o e)
end
end PySem.W

namespace Pf
open PySem PySem.Spec PyProof.Rows L2
section
variable {X : Cx} {c : Ct} {own : List Ms} {m : Md} {W : WX} {a b : Expr} {A B : SX} {pos : Pos}
def alk2 (d e : PyData) : Bool := PySem.W.alike d d && PySem.W.alike d e && PySem.W.alike e d && PySem.W.alike e e
def rMax2D (K : PySem.W.Frag) : List V → Hp → VK → Prop := fun xs H Q => ∃ x y d e, xs = [x, y] ∧ Dp K H x d ∧ Dp K H y e ∧ alk2 d e = true ∧ SeqAt.shaped d = true ∧ SeqAt.shaped e = true ∧ d ≠ .none ∧ e ≠ .none ∧ Q (if PySem.W.dataLt d e then y else x) H
theorem alk2_ok {d e : PyData} (h : alk2 d e = true) (h1 : d ≠ .none) (h2 : e ≠ .none) : PySem.W.AlikeAll [d, e] := by
  unfold alk2 at h
  simp only [Bool.and_eq_true] at h
  obtain ⟨⟨⟨a1, a2⟩, a3⟩, a4⟩ := h
  refine ⟨fun x hx y hy => ?_, fun x hx => ?_⟩
  · rcases List.mem_cons.mp hx with rfl | hx
    · rcases List.mem_cons.mp hy with rfl | hy
      · exact a1
      · rw [List.mem_singleton.mp hy]; exact a2
    · rw [List.mem_singleton.mp hx]
      rcases List.mem_cons.mp hy with rfl | hy
      · exact a3
      · rw [List.mem_singleton.mp hy]; exact a4
  · rcases List.mem_cons.mp hx with rfl | hx
    · exact h1
    · rw [List.mem_singleton.mp hx]; exact h2
theorem shaped_dep {d : PyData} (h : SeqAt.shaped d = true) : d.depth ≤ 64 := by
  unfold SeqAt.shaped at h
  rw [Bool.and_eq_true, decide_eq_true_eq] at h
  exact h.2
theorem call_max2D (hc : X.calm = true) (hu : X.A.units + 66 < cLine) : CallR X (.builtin "max") (rMax2D X.K) := by
  intro pins s σ H xs us Q I r h
  obtain ⟨x, y, d, e, rfl, hd, he, al, sd, se, n1, n2, q⟩ := h
  obtain ⟨u, w', rfl, rx, ry⟩ := vals2 r
  obtain ⟨as, r1⟩ := Dp.reads I d x u hd rx
  obtain ⟨bs, r2⟩ := Dp.reads I e y w' he ry
  have hdep : PyData.depthAll [d, e] ≤ 64 := by
    simp only [PyData.depthAll]
    have := shaped_dep sd
    have := shaped_dep se
    omega
  refine PySem.W.call_max_twoH (I.ok.hd hc) r1 r2 (alk2_ok al n1 n2) (by omega) fun h' tk k => ⟨_, H, I.kept k, ?_, q⟩
  cases PySem.W.dataLt d e with
  | true => rw [if_pos rfl, if_pos rfl]; exact ry
  | false => rw [if_neg Bool.false_ne_true, if_neg Bool.false_ne_true]; exact rx
/-! built-ins that hand on what they are given -/
def CallGS (r : List V → Hp → VK → Prop) (m : Md) (c : Ct) (g : List D → Option D) : Prop :=
  ∀ (Z H : Hp) (φ : Fd) (xs : List V) (ds : List D) (z : D) (W : WX) (σ : L2.St) (Q : VK), Wf c.K c.f Z H φ → RAll .s c.K c.f H Z H xs ds → g ds = some z → Post c m W (.ok z φ) σ Z H Q → r xs H Q
theorem cb_coreS {r : List V → Hp → VK → Prop} {g : List D → Option D} {A : SA} (hg : CallGS r m c g) {σ : L2.St} {H : Hp} {Q : VK} (h : tE c own m W (eCB g A) σ H Q) : tCB r (tA c own .s W A) σ H Q := by
  obtain ⟨Z, ρ, φ, R, h⟩ := h
  refine ⟨Z, ρ, φ, R, PostA.bindE h fun ds φ1 xs Z1 H1 e1 w1 r1 h1 => ?_⟩
  obtain ⟨z, hz, h3⟩ := ofO_ok (E := fun o => Post c m W o σ Z1 H1 Q) h1 fun z => z
  exact hg Z1 H1 φ1 xs ds z W σ Q w1 (r1.any (by decide)) hz h3
theorem x_callBS {id : String} {r : List V → Hp → VK → Prop} {g : List D → Option D} {x : Str} {p : Pos} {e : Expr} {es : List Expr} {A : SA} (hc : CallR X (.builtin id) r) (hG : CallGS r m c g) (hm : X.mg x = none) (hv : bootBuiltins x = some (.builtin id)) (ha : AX X c own .s W (e :: es) A)
    (hg : Gl X x := by rfl) (hn : x ≠ "__name__" := by decide) (hdb : (x == ("__debug__" : Str)) = false := by decide)
    (he : starEach (e :: es) X.env = (false, eval e X.env) :: starEach es X.env := by rfl) (hpl : (backTo pos (starEach es X.env)).any (·.1) = false := by rfl) : EX X c own m W (.Call (.Name x p) (e :: es) [] pos) (eCB g A) :=
  PE.weak (pe_callB hc hg hm hv ha hn hdb he hpl) fun _ _ _ h => cb_coreS hG h
def gMax2D : List D → Option D
  | [d, e] => if alk2 d.py e.py && d.shp && e.shp && okLt d e && okLt e d then some (if ltD d e then e else d) else none
  | _ => none
theorem gMax2D_ok : CallGS (rMax2D c.K) .s c gMax2D := by
  intro Z H φ xs ds z W σ Q w r hg h
  match ds, hg, r with
  | [d, e], hg, r =>
    obtain ⟨hs, rfl⟩ := ifs hg
    simp only [Bool.and_eq_true] at hs
    obtain ⟨⟨⟨⟨h1, h2⟩, h3⟩, h4⟩, h5⟩ := hs
    obtain ⟨x, y, rfl, rx, ry⟩ := r.two'
    have k1 := okLt_ok h4
    have k2 := okLt_ok h5
    refine ⟨x, y, d.py, e.py, rfl, ?_, ?_, h1, h2, h3, k1.2.2.2, k2.2.2.2, ?_⟩
    · exact (show Res .p c.K c.f H Z H x d from .inl rx).dp w (SeqAt.canLay_of_shaped h2)
    · exact (show Res .p c.K c.f H Z H y e from .inl ry).dp w (SeqAt.canLay_of_shaped h3)
    · have : PySem.W.dataLt d.py e.py = ltD d e := rfl
      rw [this]
      by_cases hc : ltD d e = true
      · rw [if_pos hc] at h ⊢; exact h.now w ry
      · rw [if_neg hc] at h ⊢; exact h.now w rx
theorem x_max2S {e e2 : Expr} {p : Pos} {S : SA} (hK : X.K = c.K) (hc : X.calm = true) (hu : X.A.units + 66 < cLine) (hm : X.mg "max" = none) (ha : AX X c own .s W [e, e2] S) (hg : Gl X "max" := by rfl) (he : starEach [e, e2] X.env = (false, eval e X.env) :: starEach [e2] X.env := by rfl) (hpl : (backTo pos (starEach [e2] X.env)).any (·.1) = false := by rfl) :
    EX X c own .s W (.Call (.Name "max" p) [e, e2] [] pos) (eCB gMax2D S) := x_callBS (call_max2D hc hu) (by rw [hK]; exact gMax2D_ok) hm (by decide +kernel) ha hg (by decide) (by decide) he hpl
end
end Pf

set_option Elab.async false
set_option linter.all false
set_option maxRecDepth 100000
set_option maxHeartbeats 4000000
namespace Pf
open PySem PySem.Spec PyProof.Rows L2

/-! ## dicts whose keys are ints and texts -/
def valD (l : List (Key × D)) (k : Key) : Option D := (l.find? fun kv => decide (kv.1 = k)).map (·.2)
def putD (l : List (Key × D)) (k : Key) (v : D) : List (Key × D) :=
  if (l.any fun kv => decide (kv.1 = k)) = true then l.map (fun kv => if kv.1 = k then (kv.1, v) else kv) else l ++ [(k, v)]
def mergeD (l more : List (Key × D)) : List (Key × D) := more.foldl (fun acc kv => putD acc kv.1 kv.2) l
def keyD : D → Option Key
  | .int i => some (.inl i)
  | .str x => some (.inr x)
  | _ => none
section
variable {K : PySem.W.Frag} {f : Addr} {Z : Hp}
theorem KReps.length : ∀ {v : List (Key × V)} {d : List (Key × D)}, KReps K f Z v d → v.length = d.length
  | _, _, .nil => rfl
  | _, _, .cons _ s => by simp [s.length]
theorem KReps.app : ∀ {v v' : List (Key × V)} {d d' : List (Key × D)}, KReps K f Z v d → KReps K f Z v' d' → KReps K f Z (v ++ v') (d ++ d')
  | _, _, _, _, .nil, s => s
  | _, _, _, _, .cons r t, s => .cons r (t.app s)
theorem KReps.hit : ∀ {v : List (Key × V)} {d : List (Key × D)} {k : Key} {z : D}, KReps K f Z v d → valD d k = some z → ∃ y, valV v k = some y ∧ Rep K f Z y z
  | _, _, k, z, .nil, e => by cases e
  | _, _, k, z, .cons (k := k0) (v := y0) (d := d0) (r := r) (s := s) q t, e => by
    by_cases h : k0 = k
    · have e1 : valD ((k0, d0) :: s) k = some d0 := by simp [valD, h]
      rw [e1] at e
      cases e
      exact ⟨y0, valV_pos (p := (k0, y0)) h, q⟩
    · have e1 : valD ((k0, d0) :: s) k = valD s k := by simp [valD, h]
      rw [e1] at e
      obtain ⟨y, h1, h2⟩ := KReps.hit (k := k) (z := z) t e
      exact ⟨y, by rw [valV_neg (p := (k0, y0)) h]; exact h1, h2⟩
theorem KReps.miss : ∀ {v : List (Key × V)} {d : List (Key × D)} {k : Key}, KReps K f Z v d → valD d k = none → valV v k = none
  | _, _, k, .nil, e => rfl
  | _, _, k, .cons (k := k0) (v := y0) (d := d0) (r := r) (s := s) q t, e => by
    by_cases h : k0 = k
    · have e1 : valD ((k0, d0) :: s) k = some d0 := by simp [valD, h]
      rw [e1] at e
      cases e
    · have e1 : valD ((k0, d0) :: s) k = valD s k := by simp [valD, h]
      rw [e1] at e
      rw [valV_neg (p := (k0, y0)) h]
      exact KReps.miss t e
theorem KReps.any : ∀ {v : List (Key × V)} {d : List (Key × D)} (k : Key), KReps K f Z v d → (v.any fun kv => decide (kv.1 = k)) = d.any fun kv => decide (kv.1 = k)
  | _, _, _, .nil => rfl
  | _, _, k, .cons (r := r) (s := s) q t => by rw [List.any_cons, List.any_cons, KReps.any k t]
theorem KReps.over {y : V} {x : D} {k : Key} (h : Rep K f Z y x) : ∀ {v : List (Key × V)} {d : List (Key × D)}, KReps K f Z v d → KReps K f Z (v.map fun kv => if kv.1 = k then (kv.1, y) else kv) (d.map fun kv => if kv.1 = k then (kv.1, x) else kv)
  | _, _, .nil => .nil
  | _, _, .cons (k := k0) (v := y0) (d := d0) q t => by
    rw [List.map_cons, List.map_cons]
    by_cases e : k0 = k
    · rw [if_pos e, if_pos e]; exact .cons h (KReps.over h t)
    · rw [if_neg e, if_neg e]; exact .cons q (KReps.over h t)
theorem KReps.put {v : List (Key × V)} {d : List (Key × D)} {k : Key} {y : V} {x : D} (r : KReps K f Z v d) (h : Rep K f Z y x) : KReps K f Z (putK v k y) (putD d k x) := by
  unfold putK putD
  rw [r.any k]
  split
  · exact r.over h
  · exact r.app (.cons h .nil)
theorem KReps.merge : ∀ {m : List (Key × V)} {n : List (Key × D)} {v : List (Key × V)} {d : List (Key × D)}, KReps K f Z m n → KReps K f Z v d → KReps K f Z (mergeK v m) (mergeD d n)
  | _, _, _, _, .nil, r => r
  | (k, y) :: m, (_, x) :: n, v, d, .cons q t, r => show KReps K f Z (mergeK (putK v k y) m) (mergeD (putD d k x) n) from KReps.merge t (r.put q)
end
theorem keyD_rep {m : Md} {K : PySem.W.Frag} {f : Addr} {Z H H0 : Hp} {v : V} {d : D} {k : Key} (r : Res m K f H0 Z H v d) (h : keyD d = some k) : v = kV k := by
  cases d with
  | int i => cases h; exact r.int
  | str x => cases h; exact r.str
  | _ => cases h
/-! ### displays -/
abbrev SP := En → Fd → O (List (Key × D))
def pNil : SP := fun _ φ => .ok [] φ
def pCons (A B : SX) (P : SP) : SP := fun ρ φ => (A ρ φ).bind fun k φ1 => (B ρ φ1).bind fun v φ2 => match keyD k with
  | some k => (P ρ φ2).bind fun l φ3 => .ok ((k, v) :: l) φ3
  | none => .bad
def PostP (c : Ct) (W : WX) (o : O (List (Key × D))) (σ : L2.St) (Z H : Hp) (Q : List (V × V) → Hp → Prop) : Prop :=
  match o with
  | .ok l φ => ∀ kvs Z' H', Ext c.f Z H Z' H' → Wf c.K c.f Z' H' φ → KReps c.K c.f Z' kvs l → Q (kvs.map fun kv => (kV kv.1, kv.2)) H'
  | .ex x l φ => ∀ cls dx Z' H', Ext c.f Z H Z' H' → Wf c.K c.f Z' H' φ → XRep c Z' H' x l cls dx → W cls dx σ H'
  | .bad => False
section
variable {X : Cx} {c : Ct} {own : List Ms} {m : Md} {W : WX} {pos : Pos} {Z H Z1 H1 : Hp} {σ : L2.St}
theorem PostP.shift {o : O (List (Key × D))} {Q : List (V × V) → Hp → Prop} (e : Ext c.f Z H Z1 H1) (h : PostP c W o σ Z H Q) : PostP c W o σ Z1 H1 Q := by
  cases o with
  | ok d φ => exact fun v Z' H' e' => h v Z' H' (e.trans e')
  | ex x l φ => exact fun cls dx Z' H' e' => h cls dx Z' H' (e.trans e')
  | bad => exact h
/-- the pairs' trees with their reading -/
def PX (X : Cx) (c : Ct) (own : List Ms) (W : WX) (pos : Pos) (keys : List (Option Expr)) (values : List Expr) (P : SP) : Prop :=
  ∃ trs, PPs X pos keys values trs ∧ ∀ (Z H : Hp) (ρ : En) (φ : Fd) (σ : L2.St) (Q : List (V × V) → Hp → Prop), Rl c own Z ρ φ σ H → PostP c W (P ρ φ) σ Z H Q → tPairs trs σ H Q
theorem px_nil : PX X c own W pos [] [] pNil := ⟨[], pps_nil, fun Z H ρ φ σ Q R h => h [] Z H .refl R.wf .nil⟩
theorem px_cons {k v : Expr} {ks : List (Option Expr)} {vs : List Expr} {A B : SX} {P : SP} (hk : EX X c own .p W k A) (hv : EX X c own .s W v B) (hr : PX X c own W pos ks vs P) : PX X c own W pos (some k :: ks) (v :: vs) (pCons A B P) := by
  obtain ⟨trs, h1, h2⟩ := hr
  refine ⟨_, pps_cons hk hv h1, fun Z H ρ φ σ Q R h => ?_⟩
  show tE c own .p W A σ H _
  refine ⟨Z, ρ, φ, R, Post.bind (E := fun o Z H => PostP c W o σ Z H Q) (fun _ _ _ e h => h.shift e) (fun _ _ _ h => h) (fun h => h) h fun kd φ1 x Z1 H1 e1 w1 r1 h1 => ?_⟩
  show tE c own .s W B σ H1 _
  refine ⟨Z1, ρ, φ1, R.more e1 w1, Post.bind (E := fun o Z H => PostP c W o σ Z H Q) (fun _ _ _ e h => h.shift e) (fun _ _ _ h => h) (fun h => h) h1 fun vd φ2 y Z2 H2 e2 w2 r2 h3 => ?_⟩
  cases hk : keyD kd with
  | none => rw [hk] at h3; exact h3.elim
  | some key =>
    rw [hk] at h3
    refine h2 Z2 H2 ρ φ2 σ _ ((R.more e1 w1).more e2 w2) ?_
    have hx : x = kV key := keyD_rep (r1.pmono e2) hk
    have h3' : PostP c W ((P ρ φ2).bind fun l φ3 => O.ok ((key, vd) :: l) φ3) σ Z2 H2 Q := h3
    cases hP : P ρ φ2 with
    | ok l φ3 =>
      rw [hP] at h3'
      intro kvs Z' H' e' w' r'
      have := h3' ((key, y) :: kvs) Z' H' e' w' (.cons (Rep.mono e'.z r2) r')
      rw [hx]
      exact this
    | ex _ _ _ => rw [hP] at h3'; exact h3'
    | bad => rw [hP] at h3'; exact h3'
def eDsp (P : SP) : SX := fun ρ φ => (P ρ φ).bind fun l φ1 => if l.length ≤ 15 then .ok (.dk (mergeD [] l)) φ1 else .bad
theorem x_dsp {keys : List (Option Expr)} {values : List Expr} {P : SP} (h : PX X c own W pos keys values P) (hall : keys.all (·.isSome) = true := by rfl) (hl : keys.length = values.length := by rfl) (h0 : keys ≠ [] := by exact List.cons_ne_nil _ _) (h15 : keys.length ≤ 15 := by decide) :
    EX X c own .o W (.Dict keys values pos) (eDsp P) := by
  obtain ⟨trs, h1, h2⟩ := h
  refine PE.weak (pe_disp h1 hall hl h0 h15) ?_
  rintro σ H Q ⟨Z, ρ, φ, R, h⟩ p hp
  have w := R.wf
  have hz : Z p = none := by
    cases e : Z p with
    | none => rfl
    | some u => rw [w.sub p u e] at hp; cases hp
  have hf : p ≠ c.f := fun e => w.hf (e ▸ hp)
  have up : ∀ (o : HO) b u, H b = some u → upd H p o b = some u := fun o b u q => by rw [upd_ne (ne_of_none q hp)]; exact q
  have e0 : Ext c.f Z H Z (upd H p (.dK [])) := ⟨fun _ _ q => q, fun b u _ q => up _ b u q, fun b hb => by
    cases e : H b with
    | none => exact absurd e hb
    | some u => rw [up _ b u e]; simp, fun _ _ q => q, .same (upd_ne (Ne.symm hf))⟩
  have w0 : Wf c.K c.f Z (upd H p (.dK [])) φ := ⟨fun b u q => up _ b u (w.sub b u q), w.zf, by
    obtain ⟨s, h1, h2⟩ := w.feed
    exact ⟨s, h1, up _ _ _ h2⟩, w.ok⟩
  refine h2 Z _ ρ φ σ _ (R.more e0 w0) ?_
  unfold eDsp at h
  cases hP : P ρ φ with
  | bad => rw [hP] at h; exact h
  | ex x l φ1 =>
    rw [hP] at h
    exact fun cls dx Z' H' e' w' r' => h cls dx Z' H' (e0.trans e') w' r'
  | ok l φ1 =>
    rw [hP] at h
    intro kvs Z' H' e' w' r'
    obtain ⟨hl15, h4⟩ := iteO_ok (E := fun o => Post c .o W o σ Z H Q) h fun z => z
    have hp' : H' p = some (.dK []) := e'.h p _ hf upd_same
    have hz' : Z' p = none := e'.n p (by rw [upd_same]; simp) hz
    have upH : ∀ (o : HO) b u, b ≠ p → H' b = some u → upd H' p o b = some u := fun o b u hb q => by rw [upd_ne hb]; exact q
    refine ⟨hp', kvs, rfl, by rw [r'.length]; exact hl15, ?_⟩
    have e1 : Ext c.f Z H Z' (upd H' p (.dK (mergeK [] kvs))) := by
      refine ⟨e'.z, fun b u hb q => upH _ b u (ne_of_none q hp) (e'.h b u hb (up _ b u q)), fun b hb => ?_, fun b hb q => e'.n b (by
        cases e : H b with
        | none => exact absurd e hb
        | some u => rw [up _ b u e]; simp) q, ?_⟩
      · cases e : H b with
        | none => exact absurd e hb
        | some u =>
          have hbp : b ≠ p := ne_of_none e hp
          rw [upd_ne hbp]
          exact e'.k b (by rw [up _ b u e]; simp)
      · exact (FdK.same (upd_ne (Ne.symm hf))).trans (e'.d.trans (.same (upd_ne (Ne.symm hf))))
    have w1 : Wf c.K c.f Z' (upd H' p (.dK (mergeK [] kvs))) φ1 := ⟨fun b u q => upH _ b u (fun z => by rw [z, hz'] at q; cases q) (w'.sub b u q), w'.zf, by
      obtain ⟨s, h1, h2⟩ := w'.feed
      exact ⟨s, h1, upH _ _ _ (Ne.symm hf) h2⟩, w'.ok⟩
    refine h4 (.ref p) Z' _ e1 w1 ?_
    unfold Res
    rw [if_pos (show (D.dk (mergeD [] l)).mt = true from rfl)]
    exact ⟨p, _, rfl, hp, hz', hf, upd_same, .dk (r'.merge .nil)⟩
/-- {} -/
def eDct0 : SX := fun _ φ => .ok (.dk []) φ
theorem x_dct0 : EX X c own .o W (.Dict [] [] pos) eDct0 := by
  refine PE.weak pe_dnewK ?_
  rintro σ H Q ⟨Z, ρ, φ, R, h⟩
  exact Post.newO R.wf (.dk .nil) h
/-! ### d.get(k, x), d[k], k in d -/
def eDGet (A B C : SX) : SX := fun ρ φ => (A ρ φ).bind fun d φ1 => match d with
  | .dk l => (B ρ φ1).bind fun k φ2 => (C ρ φ2).bind fun z φ3 => (match keyD k with
    | some k => .ok ((valD l k).getD z) φ3
    | none => .bad)
  | _ => .bad
def eDIx (A B : SX) : SX := fun ρ φ => (A ρ φ).bind fun d φ1 => match d with
  | .dk l => (B ρ φ1).bind fun k φ2 => (match keyD k with
    | some k => ofO (valD l k) φ2
    | none => .bad)
  | _ => .bad
variable {o k z : Expr} {A B C : SX} {apos cpos : Pos}
theorem x_dget (hu : X.A.units + 64 < cLine) (ha : EX X c own .p W o A) (hb : EX X c own .p W k B) (hz : EX X c own .s W z C) (hm : M2 X o "get" apos k z cpos := by exact ⟨rfl, rfl, rfl, rfl⟩) : EX X c own .s W (.Call (.Attribute o "get" apos) [k, z] [] cpos) (eDGet A B C) := by
  refine PE.weak (pe_dget2 (by omega) ha hb hz hm) ?_
  rintro σ H Q ⟨Z, ρ, φ, R, h⟩
  refine ⟨Z, ρ, φ, R, Post.bindE h fun d φ1 x Z1 H1 e1 w1 r1 h1 => ?_⟩
  cases d with
  | dk l =>
    obtain ⟨a, kvs, rfl, ha1, rk⟩ := r1.dk w1
    refine ⟨a, rfl, .inl ⟨kvs, Rd.of ha1⟩, Z1, ρ, φ1, R.more e1 w1, Post.bindE h1 fun kd φ2 y Z2 H2 e2 w2 r2 h2 => ?_⟩
    refine ⟨Z2, ρ, φ2, (R.more e1 w1).more e2 w2, Post.bindE h2 fun zd φ3 v Z3 H3 e3 w3 r3 h3 => ?_⟩
    cases hk : keyD kd with
    | none => rw [hk] at h3; exact h3.elim
    | some key =>
      rw [hk] at h3
      obtain ⟨a', kvs', ea, ha3, rk3⟩ := ((r1.pmono e2).pmono e3).dk w3
      cases ea
      have hy : y = kV key := keyD_rep (r2.pmono e3) hk
      refine ⟨valV kvs' key, by rw [hy]; exact DGet.k ha3, ?_⟩
      have h3' : Post c .s W (.ok ((valD l key).getD zd) φ3) σ Z3 H3 Q := h3
      cases hv : valD l key with
      | none =>
        rw [hv] at h3'
        rw [rk3.miss hv]
        exact h3'.now w3 r3
      | some u =>
        rw [hv] at h3'
        obtain ⟨y2, e4, r4⟩ := rk3.hit hv
        rw [e4]
        exact h3'.now w3 r4
  | _ => exact h1.elim
theorem x_dix (hu : X.A.units + 64 < cLine) (ha : EX X c own .p W o A) (hb : EX X c own .p W k B) (hs : NoSl k := by exact fun _ _ => rfl) : EX X c own .s W (.Subscript o k pos) (eDIx A B) := by
  refine PE.weak (pe_dget (by omega) ha hb hs) ?_
  rintro σ H Q ⟨Z, ρ, φ, R, h⟩
  refine ⟨Z, ρ, φ, R, Post.bindE h fun d φ1 x Z1 H1 e1 w1 r1 h1 => ?_⟩
  cases d with
  | dk l =>
    refine ⟨Z1, ρ, φ1, R.more e1 w1, Post.bindE h1 fun kd φ2 y Z2 H2 e2 w2 r2 h2 => ?_⟩
    cases hk : keyD kd with
    | none => rw [hk] at h2; exact h2.elim
    | some key =>
      rw [hk] at h2
      obtain ⟨a, kvs, rfl, ha2, rk⟩ := (r1.pmono e2).dk w2
      have hy : y = kV key := keyD_rep r2 hk
      obtain ⟨z, hz, h3⟩ := ofO_ok (E := fun o => Post c .s W o σ Z2 H2 Q) h2 fun z => z
      obtain ⟨v, e4, r4⟩ := rk.hit hz
      exact ⟨a, v, rfl, by rw [hy, ← e4]; exact DGet.k ha2, h3.now w2 r4⟩
  | _ => exact h1.elim
end
end Pf

set_option Elab.async false
set_option linter.all false
set_option maxRecDepth 100000
set_option maxHeartbeats 4000000
namespace Pf
open PySem PySem.Spec PyProof.Rows L2

/-! ## a module's constants that are tuples, and dicts with ints as keys -/
def repF (u : Value) (d : D) : Bool := match u, d with
  | .int i _, .int j => i == j
  | .str x _, .str y => decide (x = y)
  | .none, .non => true
  | .bool b, .bl c => b == c
  | _, _ => false
def repFs : List Value → List D → Bool
  | [], [] => true
  | u :: us, d :: ds => repF u d && repFs us ds
  | _, _ => false
def repB (K : PySem.W.Frag) (u : Value) (d : D) : Bool := match d with
  | .tup ds => match u with
    | .ref t => match K.lookup t with
      | some o => (match o.cls with | .type n => n == "tuple" | _ => false) && (match o.data with | .seq its _ => decide (its.size ≤ 1000) && repFs its.toList ds | _ => false)
      | none => false
    | _ => false
  | d => repF u d
theorem repF_ok {u : Value} {d : D} (h : repF u d = true) : ∃ v, RelV v u ∧ ∀ K f Z, Rep K f Z v d := by
  unfold repF at h
  split at h
  · rename_i i t j
    exact ⟨.int i, ⟨t, rfl⟩, fun K f Z => by rw [beq_iff_eq] at h; subst h; exact .int _⟩
  · rename_i x t y
    exact ⟨.str x, ⟨t, rfl⟩, fun K f Z => by rw [decide_eq_true_eq] at h; subst h; exact .str _⟩
  · exact ⟨.non, rfl, fun K f Z => .non⟩
  · rename_i b d
    exact ⟨.bl b, rfl, fun K f Z => by rw [beq_iff_eq] at h; subst h; exact .bl _⟩
  · cases h
theorem repFs_ok : ∀ {us : List Value} {ds : List D}, repFs us ds = true → ∃ vs, Vals vs us ∧ ∀ K f Z, Reps K f Z vs ds
  | [], [], _ => ⟨[], .nil, fun _ _ _ => .nil⟩
  | u :: us, d :: ds, h => by
    have h' : (repF u d && repFs us ds) = true := h
    rw [Bool.and_eq_true] at h'
    obtain ⟨v, h1, h2⟩ := repF_ok h'.1
    obtain ⟨vs, h3, h4⟩ := repFs_ok h'.2
    exact ⟨v :: vs, .cons h1 h3, fun K f Z => .cons (h2 K f Z) (h4 K f Z)⟩
  | [], _ :: _, h => by cases h
  | _ :: _, [], h => by cases h
theorem repB_ok {K : PySem.W.Frag} {u : Value} {d : D} (h : repB K u d = true) : ∃ v, RelV v u ∧ ∀ f Z, Rep K f Z v d := by
  have flat : repF u d = true → ∃ v, RelV v u ∧ ∀ f Z, Rep K f Z v d := fun h => by
    obtain ⟨v, h1, h2⟩ := repF_ok h
    exact ⟨v, h1, fun f Z => h2 K f Z⟩
  cases d with
  | tup ds =>
    unfold repB at h
    dsimp only at h
    split at h
    · rename_i t
      split at h
      · rename_i o ho
        rw [Bool.and_eq_true] at h
        obtain ⟨h1, h2⟩ := h
        split at h1
        · rename_i n hc
          split at h2
          · rename_i its m hd
            rw [Bool.and_eq_true, decide_eq_true_eq] at h2
            obtain ⟨vs, h3, h4⟩ := repFs_ok h2.2
            refine ⟨.ref t, rfl, fun f Z => .tup (.inr ⟨o, its, m, ho, ?_, hd, ?_, h3⟩) (h4 K f Z)⟩
            · rw [hc, beq_iff_eq.mp h1]
            · rw [sizeLine_eq]; have := h2.1; omega
          · cases h2
        · cases h1
      · cases h
    · cases h
  | _ => exact flat h
def gdB (K : PySem.W.Frag) (p : Addr) (tbl : List (Int × D)) : Bool := match K.lookup p with
  | some ⟨.type n, none, .dict es _, sl⟩ => n == "dict" && sl.isEmpty && es.toList.all (fun e => match e.key with | .int i _ => e.hash == hashInt i | _ => false) && tbl.all fun kd => match findBy Value.isInt es kd.1 with | some u => repB K u kd.2 | none => false
  | _ => false
def gdF (tbl : List (Int × D)) (k : D) : Option D := match k with
  | .int i => (tbl.find? fun kd => decide (kd.1 = i)).map (·.2)
  | _ => none
def rGd (P : Program) (w : World) (K : PySem.W.Frag) : R2 := fun x y H Q => ∃ p i es n u v, x = .ref p ∧ y = .int i ∧ K.lookup p = some ⟨.type "dict", none, .dict es n, #[]⟩ ∧ KeysOf (intKind P w) es ∧ findBy Value.isInt es i = some u ∧ RelV v u ∧ Q v H
theorem ix_gd {X : Cx} : IxR X (rGd X.prog X.w X.K) := by
  intro value slice pins s σ H x y v u Q I rx ry h hs
  obtain ⟨p, i, es, n, u0, r, rfl, rfl, hl, hk, hf, ru, q⟩ := h
  obtain rfl : v = Value.ref p := rx
  obtain ⟨t, rfl⟩ := ry
  have hm : s.heap.MapOf (intKind X.prog X.w) p (fun k => findBy Value.isInt es k) := ⟨_, es, n, I.kIn _ _ hl, ⟨rfl, rfl, rfl⟩, rfl, hk, fun _ => rfl⟩
  exact tail_any hm.typeIs slot_dict_getitem.lookup (wpAny_getItem_of (intKind_is X.prog X.w i t) hm hf ⟨r, H, I.tok _, ru, q⟩) hs
section
variable {X : Cx} {c : Ct} {own : List Ms} {m : Md} {W : WX} {pos p0 : Pos}
/-- T[k], T a dict of the module -/
def eGIx (tbl : List (Int × D)) (B : SX) : SX := fun ρ φ => (B ρ φ).bind fun k φ1 => ofO (gdF tbl k) φ1
theorem gd_at {p : Addr} {tbl : List (Int × D)} {i : Int} {d : D} (h : gdB X.K p tbl = true) (hd : gdF tbl (.int i) = some d) :
    ∃ es n u v, X.K.lookup p = some ⟨.type "dict", none, .dict es n, #[]⟩ ∧ KeysOf (intKind X.prog X.w) es ∧ findBy Value.isInt es i = some u ∧ RelV v u ∧ ∀ f Z, Rep X.K f Z v d := by
  unfold gdB at h
  split at h
  · rename_i n es m sl ho
    rw [Bool.and_eq_true, Bool.and_eq_true, Bool.and_eq_true, List.all_eq_true, List.all_eq_true] at h
    obtain ⟨⟨⟨h1, h2⟩, h3⟩, h4⟩ := h
    have hd' : (tbl.find? fun kd => decide (kd.1 = i)).map (·.2) = some d := hd
    obtain ⟨kd, e1, e2⟩ := Option.map_eq_some_iff.mp hd'
    have hk : kd.1 = i := by simpa using List.find?_some e1
    have h5 := h4 kd (List.mem_of_find?_eq_some e1)
    rw [hk] at h5
    split at h5
    · rename_i u hu
      obtain ⟨v, r1, r2⟩ := repB_ok h5
      refine ⟨es, m, u, v, ?_, fun e he => ?_, hu, r1, fun f Z => by rw [← e2]; exact r2 f Z⟩
      · rw [ho, beq_iff_eq.mp h1, Array.isEmpty_iff.mp h2]
      · have := h3 e (Array.mem_toList_iff.mpr he)
        split at this
        · rename_i j t hj
          exact ⟨j, by rw [hj]; exact intKind_is X.prog X.w j t, beq_iff_eq.mp this⟩
        · cases this
    · cases h5
  · cases h
theorem x_gdix {x : Str} {p : Addr} {tbl : List (Int × D)} {k : Expr} {B : SX} (hK : X.K = c.K) (hm : X.mg x = some (.ref p)) (ht : gdB X.K p tbl = true) (hb : EX X c own .p W k B) (hg : Gl X x := by rfl) (hd : (x == ("__debug__" : Str)) = false := by decide) (hs : PlainIx k := by exact fun _ _ => rfl) :
    EX X c own .s W (.Subscript (.Name x p0) k pos) (eGIx tbl B) := by
  refine PE.weak (pe_ix (ix_gd (X := X)) (pe_glob (v := V.ref p) (pos := p0) hg hm rfl hd) hb hs) ?_
  rintro σ H Q ⟨Z, ρ, φ, R, h⟩
  refine ⟨Z, ρ, φ, R, Post.bindE h fun kd φ1 y Z1 H1 e1 w1 r1 h1 => ?_⟩
  obtain ⟨z, hz, h2⟩ := ofO_ok (E := fun o => Post c .s W o σ Z1 H1 Q) h1 fun z => z
  cases kd with
  | int i =>
    obtain ⟨es, n, u, v, e1, e2, e3, e4, e5⟩ := gd_at ht hz
    exact ⟨p, i, es, n, u, v, rfl, r1.int, e1, e2, e3, e4, h2.now w1 (by rw [← hK]; exact e5 c.f Z1)⟩
  | _ => cases hz
/-- a module's tuple -/
theorem x_gtup {x : Str} {u : Value} {d : D} (hK : X.K = c.K) (hm : X.mg x = some u) (ht : repB X.K u d = true) (hf : d.mt = false := by rfl) (hg : Gl X x := by rfl) (hd : (x == ("__debug__" : Str)) = false := by decide) :
    EX X c own .o W (.Name x pos) (fun _ φ => .ok d φ) := by
  obtain ⟨v, h1, h2⟩ := repB_ok ht
  exact PE.weak (pe_glob hg hm h1 hd) fun σ H Q ⟨Z, ρ, φ, R, h⟩ => h _ Z H .refl R.wf (Res.of_flat (by rw [← hK]; exact h2 _ _) hf)
/-! ## is True, is False -/
def gIsB : D → D → Option D
  | .bl a, .bl b => some (.bl (decide (a = b)))
  | _, _ => none
def gIsNotB : D → D → Option D
  | .bl a, .bl b => some (.bl (!decide (a = b)))
  | _, _ => none
theorem gIsB_ok : OpG (fun x y H Q => ∃ a b, x = .bl a ∧ y = .bl b ∧ Q (.bl (decide (a = b))) H) m c gIsB := by
  intro Z H φ x y d e z W σ Q w rx ry hg h
  cases d with
  | bl a =>
    cases e with
    | bl b => cases hg; exact ⟨a, b, rx.bl, ry.bl, h.nowB w⟩
    | _ => cases hg
  | _ => cases e <;> cases hg
theorem gIsNotB_ok : OpG (fun x y H Q => ∃ a b, x = .bl a ∧ y = .bl b ∧ Q (.bl (!decide (a = b))) H) m c gIsNotB := by
  intro Z H φ x y d e z W σ Q w rx ry hg h
  cases d with
  | bl a =>
    cases e with
    | bl b => cases hg; exact ⟨a, b, rx.bl, ry.bl, h.nowB w⟩
    | _ => cases hg
  | _ => cases e <;> cases hg
variable {a b : Expr} {A B : SX}
theorem x_isB (ha : EX X c own .p W a A) (hb : EX X c own .p W b B) : EX X c own .o W (.Compare a [.Is] [b] pos) (eBin gIsB A B) := x_cmp op_is_bl gIsB_ok ha hb (nomark _)
theorem x_isnotB (ha : EX X c own .p W a A) (hb : EX X c own .p W b B) : EX X c own .o W (.Compare a [.IsNot] [b] pos) (eBin gIsNotB A B) := x_cmp op_isnot_bl gIsNotB_ok ha hb (nomark _)
theorem b_isB (ha : EX X c own .p W a A) (hb : EX X c own .p W b B) : BX X c own W (.Compare a [.Is] [b] pos) (bCmp gIsB A B) := b_cmp op_is_bl gIsB_ok ha hb (nomark _)
theorem b_isnotB (ha : EX X c own .p W a A) (hb : EX X c own .p W b B) : BX X c own W (.Compare a [.IsNot] [b] pos) (bCmp gIsNotB A B) := b_cmp op_isnot_bl gIsNotB_ok ha hb (nomark _)
end
end Pf

set_option Elab.async false
set_option linter.all false
set_option maxRecDepth 100000
set_option maxHeartbeats 4000000
namespace Pf
open PySem PySem.Spec PyProof.Rows L2

/-! ## x.count(k), whole numbers -/
def gCnt (l : List D) : D → Option D
  | .int k => (intsOf l).map fun ns => .int (ns.count k : Nat)
  | _ => none
def eCnt (A B : SX) : SX := fun ρ φ => (A ρ φ).bind fun d φ1 => match d with
  | .lst l => (B ρ φ1).bind fun k φ2 => ofO (gCnt l k) φ2
  | _ => .bad
section
variable {X : Cx} {c : Ct} {own : List Ms} {m : Md} {W : WX} {a b e : Expr} {A B : SX} {pos apos cpos : Pos}
theorem x_cnt (hK : X.K = c.K) (ha : EX X c own .p W a A) (hb : EX X c own .p W e B)
    (hbase : attributeBase a "count" X.env (eval a X.env) = eval a X.env := by rfl)
    (hfew : ((backTo cpos (starEach [e] X.env)).all (fun x => !x.1) && (backToKw cpos (keywordEach [] X.env)).all (fun x => x.1.isSome) && decide ([e].length + ([] : List Keyword).length + (if ([] : List Keyword).isEmpty then 0 else 1) < 30)) = true := by rfl)
    (hline : (apos.endLine == cpos.line) = true := by rfl) (hse : starEach [e] X.env = (false, eval e X.env) :: starEach [] X.env := by rfl) (hplain : (backTo cpos (starEach [] X.env)).any (·.1) = false := by rfl) :
    EX X c own .o W (.Call (.Attribute a "count" apos) [e] [] cpos) (eCnt A B) := by
  refine PE.weak (pe_bm PySem.F.plainAttrs_list PySem.F.slot_list_count PySem.F.type_list_count mt_lcount ha (pa_cons hb pa_nil hse) hbase hfew hline hse hplain) ?_
  rintro σ H Q ⟨Z, ρ, φ, R, h⟩
  refine ⟨Z, ρ, φ, R, Post.bindE h fun d φ1 x Z1 H1 e1 w1 r1 h1 => ?_⟩
  have r1' : Res .p c.K c.f H1 Z1 H1 x d := r1
  cases d with
  | lst l =>
    obtain ⟨p, vs, rfl, hp, rs⟩ := r1'.lst w1
    refine ⟨.inl ⟨rfl, vs, by rw [hK]; exact SqL.of hp⟩, Z1, ρ, φ1, R.more e1 w1, Post.bindE h1 fun k φ2 y Z2 H2 e2 w2 r2 h2 => ?_⟩
    obtain ⟨z, hz, h3⟩ := ofO_ok (E := fun o => Post c .o W o σ Z2 H2 Q) h2 fun z => z
    cases k with
    | int k =>
      obtain ⟨ns, en, rfl⟩ := Option.map_eq_some_iff.mp hz
      obtain ⟨p', e', hp'⟩ := ints_arg w2 (show Res .p c.K c.f H2 Z2 H2 (.ref p) (.lst l) from r1'.pmono e2) en
      cases e'
      exact ⟨p, ns, k, rfl, by rw [(show Res .p c.K c.f H1 Z2 H2 y (.int k) from r2).int], by rw [hK]; exact hp', h3.nowI w2⟩
    | _ => cases hz
  | _ => exact h1.elim
end

/-! ## results that are new down to a depth -/
section
variable {X : Cx} {c : Ct} {own o1 : List Ms} {m : Md} {W : WX} {e : Expr} {A : SX} {pos : Pos} {n : Nat}
theorem EX.o2d (h : EX X c own .o W e A) : EX X c own (.d 1) W e A := by
  refine PE.weak h ?_
  rintro σ H Q ⟨Z, ρ, φ, R, p⟩
  refine ⟨Z, ρ, φ, R, p.mode fun d φ v Z' H' e w r => ?_⟩
  by_cases hm : d.mt = true
  · unfold Res at r
    rw [if_pos hm] at r
    obtain ⟨a, o, rfl, h0, hz, hf, ha, rc⟩ := r
    obtain ⟨e2, w2, r2⟩ := freeze e w h0 hz hf ha rc
    refine ⟨_, e2, w2, r2, ?_⟩
    cases d with
    | lst l =>
      cases rc with
      | lst rs => exact ⟨a, _, rfl, upd_same, h0, fun _ _ _ _ _ => trivial⟩
    | _ => trivial
  · unfold Res at r
    rw [if_neg hm] at r
    exact ⟨Z', e, w, r, .flat (by simpa using hm)⟩
theorem EX.d2s (h : EX X c own (.d n) W e A) : EX X c own .s W e A := by
  refine PE.weak h ?_
  rintro σ H Q ⟨Z, ρ, φ, R, p⟩
  cases hA : A ρ φ with
  | ok d φ1 =>
    rw [hA] at p
    exact ⟨Z, ρ, φ, R, by rw [hA]; exact fun v Z' H' e w r => p v Z' H' e w r.1⟩
  | ex y l φ1 => rw [hA] at p; exact ⟨Z, ρ, φ, R, by rw [hA]; exact p⟩
  | bad => rw [hA] at p; exact p.elim
/-- .. of each item -/
def FrA (H0 Z : Hp) (n : Nat) (vs : List V) (ds : List D) : Prop := ∀ (i : Nat) u e, vs[i]? = some u → ds[i]? = some e → Nw H0 Z n u e
theorem FrA.nil {H0 Z : Hp} : FrA H0 Z n [] [] := fun i u e h => by simp at h
theorem FrA.mono {H0 Z Z' : Hp} {vs : List V} {ds : List D} (q : FrA H0 Z n vs ds) (h : ∀ a o, Z a = some o → Z' a = some o) : FrA H0 Z' n vs ds := fun i u e h1 h2 => (q i u e h1 h2).mono h
theorem FrA.start {H0 H1 Z : Hp} {vs : List V} {ds : List D} (q : FrA H1 Z n vs ds) (k : ∀ a, H0 a ≠ none → H1 a ≠ none) : FrA H0 Z n vs ds := fun i u e h1 h2 => (q i u e h1 h2).start k
theorem FrA.cons {H0 Z : Hp} {v : V} {d : D} {vs : List V} {ds : List D} (h : Nw H0 Z n v d) (q : FrA H0 Z n vs ds) : FrA H0 Z n (v :: vs) (d :: ds) := fun i u e h1 h2 => by
  cases i with
  | zero => simp at h1 h2; subst h1; subst h2; exact h
  | succ i => exact q i u e (by simpa using h1) (by simpa using h2)
theorem FrA.app {H0 Z : Hp} {v : V} {d : D} {vs : List V} {ds : List D} (q : FrA H0 Z n vs ds) (hl : vs.length = ds.length) (h : Nw H0 Z n v d) : FrA H0 Z n (vs ++ [v]) (ds ++ [d]) := fun i u e h1 h2 => by
  by_cases hi : i < vs.length
  · rw [List.getElem?_append_left hi] at h1
    rw [List.getElem?_append_left (by omega)] at h2
    exact q i u e h1 h2
  · rw [List.getElem?_append_right (by omega)] at h1
    rw [List.getElem?_append_right (by omega)] at h2
    rw [hl] at h1
    cases hk : i - ds.length with
    | zero => rw [hk] at h1 h2; simp at h1 h2; subst h1; subst h2; exact h
    | succ k => rw [hk] at h1; simp at h1
end
section
variable {X : Cx} {c : Ct} {own o1 : List Ms} {q : Bool} {W : WX} {pos : Pos}
theorem lcD_read {n : Nat} {I : SA} {T : Tg} {tst : SB} {elt : SX} {vs is : List Nat} {σ : L2.St} {H : Hp} {Q : VK} (his : ∀ j ∈ is, j ∈ vs) (h : tE c own (.d (n + 1)) W (eLc I T tst elt vs) σ H Q) :
    tLc (tI c own true W I) (tT c (ownB own vs) o1 is T) (tB c o1 W0 tst) (tE c o1 (.d n) W0 elt) vs σ H Q := by
  obtain ⟨Z, ρ, φ, R, h⟩ := h
  refine ⟨Z, ρ, φ, R, ?_⟩
  unfold eLc at h
  cases hI : I ρ φ with
  | bad => rw [hI] at h; exact h
  | ex y l φ' => rw [hI] at h; exact h
  | ok ds φ1 =>
    rw [hI] at h
    intro J Z1 H1 e1 w1 wk D hD
    have hgo : ∃ ys φ2, lcGo T tst elt (wipeE ρ vs) ds φ1 = .ok ys φ2 ∧ ys.length ≤ sizeLine ∧ Post c (.d (n + 1)) W (.ok (.lst ys) φ2) σ Z H Q := by
      have h' : Post c (.d (n + 1)) W (match lcGo T tst elt (wipeE ρ vs) ds φ1 with
        | .ok ys φ2 => if ys.length ≤ sizeLine then .ok (.lst ys) φ2 else .bad
        | _ => .bad) σ Z H Q := h
      cases hg : lcGo T tst elt (wipeE ρ vs) ds φ1 with
      | bad => rw [hg] at h'; exact h'.elim
      | ex _ _ _ => rw [hg] at h'; exact h'.elim
      | ok ys φ2 =>
        rw [hg] at h'
        obtain ⟨h1, h2⟩ := iteO_ok (E := fun o => Post c (.d (n + 1)) W o σ Z H Q) h' fun z => z
        exact ⟨ys, φ2, rfl, h1, h2⟩
    obtain ⟨tot, φe, hgo, hsz, hpost⟩ := hgo
    have hDf : D ≠ c.f := fun e => w1.hf (by rw [← e]; exact hD)
    have hDz : ∀ Z2 H2, Ext c.f Z1 H1 Z2 H2 → True := fun _ _ _ => trivial
    -- the invariant
    refine ⟨fun i m Hn => m = ds.length - i ∧ i ≤ ds.length ∧ ∃ Zn φn acc accV rest, (∀ a o, Z1 a = some o → Zn a = some o) ∧ (∀ a o, a ≠ c.f → H1 a = some o → Hn a = some o) ∧ (∀ a, H1 a ≠ none → Hn a ≠ none) ∧ (∀ a, H1 a ≠ none → Z1 a = none → Zn a = none) ∧ FdK c.f H1 Hn ∧
      Zn D = none ∧ Wf c.K c.f Zn Hn φn ∧ Hn D = some (.lst accV) ∧ Reps c.K c.f Zn accV acc ∧ FrA H Zn n accV acc ∧ lcGo T tst elt (wipeE ρ vs) (ds.drop i) φn = .ok rest φe ∧ acc ++ rest = tot, ⟨ds.length, by simp, Nat.zero_le _, ?_⟩, ?_⟩
    · have up : ∀ b u, H1 b = some u → upd H1 D (.lst []) b = some u := fun b u e => by rw [upd_ne (ne_of_none e hD)]; exact e
      have hz : Z1 D = none := by
        cases e : Z1 D with
        | none => rfl
        | some u => rw [w1.sub D u e] at hD; cases hD
      refine ⟨Z1, φ1, [], [], tot, fun _ _ e => e, fun b u _ e => up b u e, fun b hb => ?_, fun _ _ e => e, .same (upd_ne (Ne.symm hDf)), hz, ⟨fun b u e => up b u (w1.sub b u e), w1.zf, ?_, w1.ok⟩, upd_same, .nil, .nil, hgo, rfl⟩
      · cases e : H1 b with
        | none => exact absurd e hb
        | some u => rw [up b u e]; simp
      · obtain ⟨s, k1, k2⟩ := w1.feed
        exact ⟨s, k1, up _ _ k2⟩
    · rintro i m Hn ⟨rfl, hi, Zn, φn, acc, accV, rest, kz, kh, kk, kn, kd, nD, wn, hDn, ra, fa, hg, ht⟩
      have en : Ext c.f Z1 H1 Zn Hn := ⟨kz, kh, kk, kn, kd⟩
      obtain ⟨wk1, wk2⟩ := wk i Zn Hn φn ⟨kz, fun _ => kh, (((R.more e1 w1).ext.trans en)).h⟩ wn
      by_cases hlt : i < ds.length
      · obtain ⟨d, hd⟩ : ∃ d, ds[i]? = some d := ⟨_, List.getElem?_eq_getElem hlt⟩
        obtain ⟨go, step⟩ := wk2 d hd
        rw [List.drop_eq_getElem_cons hlt] at hg
        have hdd : ds[i] = d := by
          rw [List.getElem?_eq_getElem hlt] at hd
          exact Option.some.inj hd
        rw [hdd] at hg
        obtain ⟨ρ1, b, φt, hT, htst, hcase⟩ := lcGo_cons hg
        refine .inr ⟨go, fun H' => ∃ m', m' < ds.length - i ∧ (m' = ds.length - (i + 1) ∧ i + 1 ≤ ds.length ∧ ∃ Zn φn acc accV rest, (∀ a o, Z1 a = some o → Zn a = some o) ∧ (∀ a o, a ≠ c.f → H1 a = some o → H' a = some o) ∧ (∀ a, H1 a ≠ none → H' a ≠ none) ∧ (∀ a, H1 a ≠ none → Z1 a = none → Zn a = none) ∧ FdK c.f H1 H' ∧
          Zn D = none ∧ Wf c.K c.f Zn H' φn ∧ H' D = some (.lst accV) ∧ Reps c.K c.f Zn accV acc ∧ FrA H Zn n accV acc ∧ lcGo T tst elt (wipeE ρ vs) (ds.drop (i + 1)) φn = .ok rest φe ∧ acc ++ rest = tot), fun H' h => h, fun x Hx hx => ?_⟩
        obtain ⟨Zx, ex, wx, rx⟩ := step x Hx hx
        have exx := en.trans ex
        have Rb : Rl c (ownB own vs) Zx (wipeE ρ vs) φn (L2.wipe σ vs) Hx := ((R.more e1 w1).more exx wx).block vs
        refine ⟨Zx, wipeE ρ vs, φn, d, ρ1, Rb, rx, hT, fun σ2 tr agr => ⟨?_, Zx, ρ1, φn, tr Zx Hx φn Sub.refl Rb, ?_⟩⟩
        · have hh : L2.wipe σ2 vs = L2.wipe (L2.wipe σ vs) vs := agr.wipe his
          rw [hh]
          refine Agr.wipe (is := vs) ⟨wipe_length _ _, fun j hj => wipe_out hj⟩ fun j h => h
        · have R2 := tr Zx Hx φn Sub.refl Rb
          have nDx : Zx D = none := ex.n D (by rw [hDn]; simp) nD
          have hDx : Hx D = some (.lst accV) := ex.h D _ hDf hDn
          rw [htst]
          intro Z3 H3 e3 w3
          have nD3 : Z3 D = none := e3.n D (by rw [hDx]; simp) nDx
          have hD3 : H3 D = some (.lst accV) := e3.h D _ hDf hDx
          have en3 := exx.trans e3
          have ra3 := (ra.mono ex.z).mono e3.z
          have fa3 := (fa.mono ex.z).mono e3.z
          rcases hcase with ⟨rfl, hr⟩ | ⟨rfl, y, φy, r, hy, hr, hys⟩
          · rw [if_neg (by decide)]
            exact ⟨ds.length - (i + 1), by omega, rfl, hlt, Z3, φt, acc, accV, rest, en3.z, en3.h, en3.k, en3.n, en3.d, nD3, w3, hD3, ra3, fa3, hr, ht⟩
          · rw [if_pos rfl]
            refine ⟨Z3, ρ1, φt, R2.more e3 w3, ?_⟩
            rw [hy]
            intro v Z4 H4 e4 w4 r4
            have r4' : Rep c.K c.f Z4 v y := r4.1
            have nD4 : Z4 D = none := e4.n D (by rw [hD3]; simp) nD3
            have hD4 : H4 D = some (.lst accV) := e4.h D _ hDf hD3
            have en4 := en3.trans e4
            have ra4 := ra3.mono e4.z
            have fa4 := (fa3.mono e4.z).app ra4.length (r4.2.start (e1.trans en3).k)
            have hacc : accV.length < sizeLine := by
              have h1 := ra.length
              have h2 : (acc ++ rest).length ≤ sizeLine := by rw [ht]; exact hsz
              rw [hys, List.length_append, List.length_cons] at h2
              omega
            refine ⟨accV, hD4, hacc, ds.length - (i + 1), by omega, rfl, hlt, Z4, φy, acc ++ [y], accV ++ [v], r, en4.z, fun a o ha hh => ?_, fun a ha => ?_, en4.n, en4.d.trans (.same (upd_ne (Ne.symm hDf))), nD4, ⟨fun a o ha => ?_, w4.zf, ?_, w4.ok⟩, upd_same, ra4.app (.cons r4' .nil), fa4, hr, ?_⟩
            · rw [upd_ne (ne_of_none hh hD)]; exact en4.h a o ha hh
            · by_cases hb : a = D
              · rw [hb, upd_same]; simp
              · rw [upd_ne hb]; exact en4.k a ha
            · rw [upd_ne (fun e => by rw [e, nD4] at ha; cases ha)]; exact w4.sub a o ha
            · obtain ⟨s, k1, k2⟩ := w4.feed
              exact ⟨s, k1, by rw [upd_ne (Ne.symm hDf)]; exact k2⟩
            · rw [List.append_assoc]; rw [← ht, hys]; rfl
      · have hie : i = ds.length := by omega
        refine .inl ⟨wk1 hie, ?_⟩
        rw [hie, List.drop_length] at hg
        cases hg
        rw [List.append_nil] at ht
        subst ht
        have e2 := e1.trans en
        have h0 : H D = none := by
          cases e : H D with
          | none => rfl
          | some u => exact absurd hD (e1.k D (by rw [e]; simp))
        obtain ⟨e3, w3, r3⟩ := freeze e2 wn h0 nD hDf hDn (.lst ra)
        have up : ∀ b u, Zn b = some u → upd Zn D (.lst accV) b = some u := fun b u q => by rw [upd_ne (ne_of_none q nD)]; exact q
        exact hpost (.ref D) _ Hn e3 w3 ⟨r3, D, accV, rfl, upd_same, h0, fa.mono up⟩
theorem x_lcD {n : Nat} {elt tg iter : Expr} {ifs : List Expr} {scope : Scope} (nm : List (Str × Nat)) {is : List Nat} {I : SA} {T : Tg} {tst : SB} {elt' : SX} (hc : X.calm = true) (hN : X.N.Nodup) (ok : blkC X.N X.env.scope scope nm = true)
    (hi : IJ X c own true W tg iter I)
    (hg : ∀ (s : Shared) (H : Hp) (C : Addr) (cl : List (Str × Addr)) (fp : List Addr), TJ (X.blk s H scope (compEnvC scope cl C X.env) fp) c (ownB own (nm.map (·.2))) o1 is tg T)
    (ht : ∀ (s : Shared) (H : Hp) (C : Addr) (cl : List (Str × Addr)) (fp : List Addr), PTs (X.blk s H scope (compEnvC scope cl C X.env) fp) ifs (tB c o1 W0 tst))
    (he : ∀ (s : Shared) (H : Hp) (C : Addr) (cl : List (Str × Addr)) (fp : List Addr), EX (X.blk s H scope (compEnvC scope cl C X.env) fp) c o1 (.d n) W0 elt elt')
    (hs : ∀ x, foldedSetIterable iter X.env x = pure x := by intro _; rfl) (hsub : ∀ j ∈ is, j ∈ nm.map (·.2) := by decide) :
    EX X c own (.d (n + 1)) W (.ListComp elt [⟨tg, iter, ifs, 0⟩] scope pos) (eLc I T tst elt' (nm.map (·.2))) :=
  PE.weak (pe_lc hc hN hi (blkOk_by ok) hg ht he hs) fun _ _ _ h => lcD_read hsub h
end
end Pf
namespace Pf
open PySem PySem.Spec PyProof.Rows L2
section
variable {X : Cx} {c : Ct} {own o1 : List Ms} {W : WX} {pos : Pos} {n : Nat}
theorem x_consD {e : Expr} {es : List Expr} {A : SX} {B : SA} (ha : EX X c own (.d n) W e A) (hb : AX X c own (.d n) W es B) (hs : starEach (e :: es) X.env = (false, eval e X.env) :: starEach es X.env := by rfl) : AX X c own (.d n) W (e :: es) (aCons A B) := by
  refine PA.weak (pa_cons ha hb hs) ?_
  rintro σ H Q ⟨Z, ρ, φ, R, h⟩
  unfold aCons at h
  refine ⟨Z, ρ, φ, R, ?_⟩
  cases hA : A ρ φ with
  | bad => rw [hA] at h; exact h.elim
  | ex y l φ1 => rw [hA] at h; exact h
  | ok d φ1 =>
    rw [hA] at h
    intro v Z1 H1 e1 w1 r1
    refine ⟨Z1, ρ, φ1, R.more e1 w1, ?_⟩
    have h' : PostA c (.d n) W ((B ρ φ1).bind fun ds φ2 => .ok (d :: ds) φ2) σ Z H Q := h
    cases hB : B ρ φ1 with
    | bad => rw [hB] at h'; exact h'.elim
    | ex y l φ2 => rw [hB] at h'; exact fun cls dx Z' H' e' w' r => h' cls dx Z' H' (e1.trans e') w' r
    | ok ds φ2 =>
      rw [hB] at h'
      exact fun vs Z2 H2 e2 w2 r2 => h' (v :: vs) Z2 H2 (e1.trans e2) w2 ⟨r1.mono e2, r2.start e1.k⟩
theorem RAll.repsD {K : PySem.W.Frag} {f : Addr} {H0 Z H : Hp} : ∀ {vs : List V} {ds : List D}, RAll (.d n) K f H0 Z H vs ds → Reps K f Z vs ds ∧ FrA H0 Z n vs ds
  | [], [], _ => ⟨.nil, .nil⟩
  | _ :: _, _ :: _, h => ⟨.cons h.1.1 (RAll.repsD h.2).1, .cons h.1.2 (RAll.repsD h.2).2⟩
theorem x_lstD {es : List Expr} {A : SA} (ha : AX X c own (.d n) W es A) : EX X c own (.d (n + 1)) W (.List es pos) (eLst A) := by
  refine PE.weak (pe_lst ha) ?_
  rintro σ H Q ⟨Z, ρ, φ, R, h⟩
  refine ⟨Z, ρ, φ, R, ?_⟩
  unfold eLst at h
  cases hA : A ρ φ with
  | bad => rw [hA] at h; exact h.elim
  | ex y l φ1 => rw [hA] at h; exact h
  | ok ds φ1 =>
    rw [hA] at h
    intro vs Z1 H1 e1 w1 r1
    obtain ⟨hl, h2⟩ := iteO_ok (E := fun o => Post c (.d (n + 1)) W o σ Z H Q) h fun z => z
    obtain ⟨rs, fs⟩ := r1.repsD
    refine ⟨by rw [rs.length]; exact hl, fun p hp => ?_⟩
    have hz : Z1 p = none := by
      cases e : Z1 p with
      | none => rfl
      | some u => rw [w1.sub p u e] at hp; cases hp
    have hf : p ≠ c.f := fun e => w1.hf (e ▸ hp)
    have up : ∀ b u, H1 b = some u → upd H1 p (.lst vs) b = some u := fun b u q => by rw [upd_ne (ne_of_none q hp)]; exact q
    have e2 : Ext c.f Z1 H1 Z1 (upd H1 p (.lst vs)) := ⟨fun _ _ q => q, fun b u _ q => up b u q, fun b hb => by
      cases e : H1 b with
      | none => exact absurd e hb
      | some u => rw [up b u e]; simp, fun _ _ q => q, .same (upd_ne (Ne.symm hf))⟩
    have w2 : Wf c.K c.f Z1 (upd H1 p (.lst vs)) φ1 := ⟨fun b u q => up b u (w1.sub b u q), w1.zf, by
      obtain ⟨s, h1, h2⟩ := w1.feed
      exact ⟨s, h1, up _ _ h2⟩, w1.ok⟩
    have h0 : H p = none := Classical.byContradiction fun q => e1.k p q hp
    obtain ⟨e3, w3, r3⟩ := freeze (e1.trans e2) w2 h0 hz hf upd_same (.lst rs)
    have upz : ∀ b u, Z1 b = some u → upd Z1 p (.lst vs) b = some u := fun b u q => by rw [upd_ne (ne_of_none q hz)]; exact q
    exact h2 (.ref p) _ _ e3 w3 ⟨r3, p, vs, rfl, upd_same, h0, fs.mono upz⟩
end

/-! ## a name whose data lies apart: changed at last, and then forgotten -/
/-- the frozen part with a private one -/
def jn (Z T : Hp) : Hp := fun a => match Z a with | some o => some o | none => T a
theorem jn_l {Z T : Hp} {a : Addr} {o : HO} (h : Z a = some o) : jn Z T a = some o := by unfold jn; rw [h]
theorem jn_r {Z T : Hp} {a : Addr} (h : Z a = none) : jn Z T a = T a := by unfold jn; rw [h]
theorem jn_or {Z T : Hp} {a : Addr} {o : HO} (h : jn Z T a = some o) : Z a = some o ∨ (Z a = none ∧ T a = some o) := by
  cases e : Z a with
  | none => rw [jn_r e] at h; exact .inr ⟨rfl, h⟩
  | some u => rw [jn_l e] at h; exact .inl h
/-- lists down to the depth n lie in T -/
def FT (T : Hp) : Nat → V → D → Prop
  | 0, _, _ => True
  | n + 1, v, .lst ds => ∃ a vs, v = .ref a ∧ T a = some (.lst vs) ∧ ∀ (i : Nat) u e, vs[i]? = some u → ds[i]? = some e → FT T n u e
  | _ + 1, _, _ => True
theorem FT.of {H Z T : Hp} (h : ∀ a o, H a = none → Z a = some o → T a = some o) : ∀ {n : Nat} {v : V} {d : D}, Nw H Z n v d → FT T n v d
  | 0, _, _, _ => trivial
  | n + 1, v, .lst ds, ⟨a, vs, e, hz, h0, q⟩ => ⟨a, vs, e, h a _ h0 hz, fun i u e' h1 h2 => FT.of h (q i u e' h1 h2)⟩
  | _ + 1, _, .non, _ => trivial
  | _ + 1, _, .bl _, _ => trivial
  | _ + 1, _, .int _, _ => trivial
  | _ + 1, _, .str _, _ => trivial
  | _ + 1, _, .tup _, _ => trivial
  | _ + 1, _, .dk _, _ => trivial
  | _ + 1, _, .dt _, _ => trivial
  | _ + 1, _, .feed, _ => trivial
  | _ + 1, _, .exn _ _, _ => trivial
  | _ + 1, _, .fnv _, _ => trivial
section
variable {c : Ct} {own : List Ms} {Z Z' T H H' : Hp} {ρ : En} {φ φ' : Fd} {σ : L2.St} {i n : Nat} {d : D} {v : V}
/-- a slot of which nothing is told any more -/
theorem Rl.hide (R : Rl c own Z ρ φ σ H) (i : Nat) (y : Option V) : Rl c own Z (ρ.set i none) φ (σ.set i y) H := by
  have back : ∀ {j : Nat} {d : D}, (ρ.set i none)[j]? = some (some d) → j ≠ i ∧ ρ[j]? = some (some d) := fun {j d} h => by
    rcases get_set h with ⟨_, q⟩ | ⟨hj, q⟩
    · cases q
    · exact ⟨hj, q⟩
  refine ⟨R.wf, R.ext, by simpa using R.len, fun j d h1 h2 h3 => ?_, fun j d h1 h2 => ?_, fun j k a d e hjk h1 h2 h3 h4 h5 h6 h7 h8 => ?_, fun j d h1 h2 => ?_, fun j d h1 h2 => ?_⟩
  · obtain ⟨hj, q⟩ := back h1
    rw [List.getElem?_set_ne (Ne.symm hj)]
    exact R.sh j d q h2 h3
  · obtain ⟨hj, q⟩ := back h1
    rw [List.getElem?_set_ne (Ne.symm hj)]
    exact R.ow j d q h2
  · obtain ⟨hj, q⟩ := back h3
    obtain ⟨hk, q'⟩ := back h5
    rw [List.getElem?_set_ne (Ne.symm hj)] at h7
    rw [List.getElem?_set_ne (Ne.symm hk)] at h8
    exact R.ne j k a d e hjk h1 h2 q h4 q' h6 h7 h8
  · obtain ⟨hj, q⟩ := back h1
    rw [List.getElem?_set_ne (Ne.symm hj)]
    exact R.pn j d q h2
  · obtain ⟨hj, q⟩ := back h1
    rw [List.getElem?_set_ne (Ne.symm hj)]
    exact R.pk j d q h2
/-- a cell of which nothing is told is written -/
theorem Rl.poke (R : Rl c own Z ρ φ σ H) {b : Addr} {o : HO} (hz : Z b = none) (hc : c.H b = none) (hf : b ≠ c.f) (hb : H b ≠ none)
    (nd : ∀ (j : Nat) (e : D), own[j]? = some .o → ρ[j]? = some (some e) → e.mt = true → σ[j]? = some (some (.ref b)) → False) : Rl c own Z ρ φ σ (upd H b o) := by
  have up : ∀ a u, a ≠ b → H a = some u → upd H b o a = some u := fun a u h q => by rw [upd_ne h]; exact q
  have zne : ∀ a u, Z a = some u → a ≠ b := fun a u q e => by rw [e, hz] at q; cases q
  refine ⟨⟨fun a u q => up a u (zne a u q) (R.wf.sub a u q), R.wf.zf, ?_, R.wf.ok⟩, ⟨R.ext.z, fun a u ha q => ?_, fun a q => ?_, R.ext.n, R.ext.d.trans (.same (upd_ne (Ne.symm hf)))⟩, R.len, R.sh, fun j e h1 h2 => ?_, R.ne, R.pn, R.pk⟩
  · obtain ⟨s, h1, h2⟩ := R.wf.feed
    exact ⟨s, h1, up _ _ (Ne.symm hf) h2⟩
  · exact up a u (fun e => by rw [e, hc] at q; cases q) (R.ext.h a u ha q)
  · by_cases e : a = b
    · rw [e, upd_same]; simp
    · rw [upd_ne e]; exact R.ext.k a q
  · obtain ⟨u, hu, ru⟩ := R.ow j e h1 h2
    refine ⟨u, hu, ?_⟩
    by_cases me : e.mt = true
    · unfold Res at ru ⊢
      rw [if_pos me] at ru ⊢
      obtain ⟨a, o2, rfl, h3, h4, h5, h6, h7⟩ := ru
      exact ⟨a, o2, rfl, h3, h4, h5, up a o2 (fun z => nd j e h2 h1 me (by rw [hu, z])) h6, h7⟩
    · unfold Res at ru ⊢
      rw [if_neg me] at ru ⊢
      exact ru
structure RD (c : Ct) (own : List Ms) (i n : Nat) (Z T : Hp) (ρ : En) (φ : Fd) (σ : L2.St) (H : Hp) (d : D) (v : V) : Prop where
  R : Rl c own Z ρ φ σ H
  un : ρ[i]? = some none
  sv : σ[i]? = some (some v)
  t0 : ∀ a, T a ≠ none → Z a = none ∧ c.H a = none ∧ a ≠ c.f ∧ H a = T a
  rep : Rep c.K c.f (jn Z T) v d
  ft : FT T n v d
  nd : ∀ (j : Nat) (a : Addr) (e : D), own[j]? = some .o → ρ[j]? = some (some e) → e.mt = true → σ[j]? = some (some (.ref a)) → T a = none
theorem RD.enter (R : Rl c own Z ρ φ σ H) (hi : i < ρ.length) (e : Ext c.f Z H Z' H') (w : Wf c.K c.f Z' H' φ') (r : Res (.d n) c.K c.f H Z' H' v d) :
    RD c own i n Z (fun a => match Z a with | some _ => none | none => Z' a) (ρ.set i none) φ' (σ.set i (some v)) H' d v := by
  obtain ⟨e2, w2⟩ := R.wf.back Sub.refl e w
  have R2 := R.more e2 w2
  have tt : ∀ {a : Addr} {o : HO}, (match Z a with | some _ => none | none => Z' a) = some o → Z a = none ∧ Z' a = some o := fun {a o} h => by
    cases e : Z a with
    | none => rw [e] at h; exact ⟨rfl, h⟩
    | some u => rw [e] at h; cases h
  have new : ∀ {a : Addr} {o : HO}, Z a = none → Z' a = some o → H a = none := fun {a o} h1 h2 => Classical.byContradiction fun q => by
    rw [e.n a q h1] at h2; cases h2
  refine ⟨R2.hide i (some v), List.getElem?_set_self hi, List.getElem?_set_self (by rw [R.len]; exact hi), fun a ha => ?_, r.1.mono fun a o q => ?_, FT.of (fun a o h0 q => ?_) r.2, fun j a e' h1 h2 h3 h4 => ?_⟩
  · cases hT : (match Z a with | some _ => none | none => Z' a : Option HO) with
    | none => exact absurd hT ha
    | some o =>
      obtain ⟨h1, h2⟩ := tt hT
      have h3 := new h1 h2
      refine ⟨h1, Classical.byContradiction fun q => R.ext.k a q h3, fun q => ?_, ?_⟩
      · rw [q, w.zf] at h2; cases h2
      · exact w.sub a o h2
  · cases hz : Z a with
    | none => rw [jn_r hz]; simp only [hz]; exact q
    | some u => rw [jn_l hz, ← q]; exact (e.z a u hz).symm
  · have hz : Z a = none := by
      cases hz : Z a with
      | none => rfl
      | some u => rw [R.wf.sub a u hz] at h0; cases h0
    show (match Z a with | some _ => none | none => Z' a) = some o
    rw [hz]
    exact q
  · rcases get_set h2 with ⟨_, q⟩ | ⟨hj, q⟩
    · cases q
    · rw [List.getElem?_set_ne (Ne.symm hj)] at h4
      obtain ⟨u, hu, ru⟩ := R.ow j e' q h1
      rw [h4] at hu
      cases hu
      unfold Res at ru
      rw [if_pos h3] at ru
      obtain ⟨b, o, eb, _, _, _, hb, _⟩ := ru
      cases eb
      cases hT : (match Z a with | some _ => none | none => Z' a : Option HO) with
      | none => rfl
      | some o =>
        obtain ⟨g1, g2⟩ := tt hT
        rw [new g1 g2] at hb
        cases hb
theorem RD.more (D0 : RD c own i n Z T ρ φ σ H d v) (e : Ext c.f Z H Z' H') (w : Wf c.K c.f Z' H' φ') : RD c own i n Z' T ρ φ' σ H' d v := by
  have hT : ∀ a, T a ≠ none → H a ≠ none := fun a ha => by rw [(D0.t0 a ha).2.2.2]; exact ha
  refine ⟨D0.R.more e w, D0.un, D0.sv, fun a ha => ?_, D0.rep.mono fun a o q => ?_, D0.ft, D0.nd⟩
  · obtain ⟨h1, h2, h3, h4⟩ := D0.t0 a ha
    refine ⟨e.n a (hT a ha) h1, h2, h3, ?_⟩
    cases e' : T a with
    | none => exact absurd e' ha
    | some o => exact e.h a o h3 (h4.trans e')
  · rcases jn_or q with q | ⟨q1, q2⟩
    · exact jn_l (e.z a o q)
    · rw [jn_r (e.n a (hT a (by rw [q2]; simp)) q1)]
      exact q2
/-- with the name's data in sight -/
theorem RD.view (D0 : RD c own i n Z T ρ φ σ H d v) (ho : own[i]? = some .s) : Rl c own (jn Z T) (ρ.set i (some d)) φ σ H := by
  have R := D0.R
  have sub : Sub Z (jn Z T) := fun a o q => jn_l q
  have tn : ∀ a, T a = none → jn Z T a = Z a := fun a h => by
    cases e : Z a with
    | none => rw [jn_r e]; exact h
    | some u => exact jn_l e
  refine ⟨⟨fun a o q => ?_, ?_, ?_, R.wf.ok⟩, ⟨fun a o q => sub a o (R.ext.z a o q), R.ext.h, R.ext.k, fun a q1 q2 => ?_, R.ext.d⟩, by simpa using R.len, fun j e h1 h2 h3 => ?_, fun j e h1 h2 => ?_, fun j k a e e' hjk h1 h2 h3 h4 h5 h6 h7 h8 => ?_, fun j e h1 h2 => ?_, fun j e h1 h2 => ?_⟩
  · rcases jn_or q with q | ⟨q1, q2⟩
    · exact R.wf.sub a o q
    · exact (D0.t0 a (by rw [q2]; simp)).2.2.2.trans q2
  · rw [tn _ (Classical.byContradiction fun q => (D0.t0 _ q).2.2.1 rfl)]
    exact R.wf.zf
  · obtain ⟨s, h1, h2⟩ := R.wf.feed
    exact ⟨s, h1.mono fun a o q => jn_l q, h2⟩
  · rw [tn _ (Classical.byContradiction fun q => q1 (D0.t0 _ q).2.1)]
    exact R.ext.n a q1 q2
  · rcases get_set h1 with ⟨rfl, q⟩ | ⟨hj, q⟩
    · cases q
      exact ⟨v, D0.sv, D0.rep⟩
    · obtain ⟨u, hu, ru⟩ := R.sh j e q h2 h3
      exact ⟨u, hu, ru.mono sub⟩
  · rcases get_set h1 with ⟨rfl, q⟩ | ⟨hj, q⟩
    · rw [ho] at h2; cases h2
    · obtain ⟨u, hu, ru⟩ := R.ow j e q h2
      refine ⟨u, hu, ?_⟩
      by_cases me : e.mt = true
      · unfold Res at ru ⊢
        rw [if_pos me] at ru ⊢
        obtain ⟨a, o2, rfl, h3, h4, h5, h6, h7⟩ := ru
        exact ⟨a, o2, rfl, h3, by rw [tn a (D0.nd j a e h2 q me hu)]; exact h4, h5, h6, h7.mono sub⟩
      · unfold Res at ru ⊢
        rw [if_neg me] at ru ⊢
        exact ru.mono sub
  · rcases get_set h3 with ⟨rfl, q⟩ | ⟨hj, q⟩
    · rw [ho] at h1; cases h1
    · rcases get_set h5 with ⟨rfl, q'⟩ | ⟨hk, q'⟩
      · rw [ho] at h2; cases h2
      · exact R.ne j k a e e' hjk h1 h2 q h4 q' h6 h7 h8
  · rcases get_set h1 with ⟨rfl, q⟩ | ⟨hj, q⟩
    · rcases h2 with h2 | h2 <;> rw [ho] at h2 <;> cases h2
    · exact R.pn j e q h2
  · rcases get_set h1 with ⟨rfl, q⟩ | ⟨hj, q⟩
    · rw [ho] at h2; cases h2
    · exact R.pk j e q h2
end
end Pf
namespace Pf
open PySem PySem.Spec PyProof.Rows L2
/-- statements while the data of i lies apart; behind them nothing is told of i -/
def tD (c : Ct) (w : Ow) (own on : List Ms) (i n : Nat) (B : SS) : TS := fun Dn σ H => ∃ Z T ρ φ d v, RD c own i n Z T ρ φ σ H d v ∧ PostS c w on (B (ρ.set i (some d)) φ) Dn Z
abbrev JDs (X : Cx) (c : Ct) (w : Ow) (own on : List Ms) (i n : Nat) (sts : List Stmt) (B : SS) : Prop := PSs X sts (tD c w own on i n B)
theorem set_back {ρ : En} {i : Nat} {d : Option D} (h : ρ[i]? = some none) : (ρ.set i d).set i none = ρ := by
  rw [List.set_set]
  refine List.ext_getElem? fun j => ?_
  by_cases hj : j = i
  · subst hj
    rw [List.getElem?_set_self (List.getElem?_eq_some_iff.mp h).1, h]
  · rw [List.getElem?_set_ne (Ne.symm hj)]
/-- x = e, and what follows sees it apart -/
def sIn (i : Nat) (A : SX) (B : SS) : SS := fun ρ φ => if i < ρ.length then sSeq (sSet i A) B ρ φ else .bad
/-- a statement that doesn't see i -/
def sHid (i : Nat) (S : SS) : SS := fun ρ φ => match S (ρ.set i none) φ with
  | .nx ρ1 φ1 => .nx (ρ1.set i (ρ[i]?.getD none)) φ1
  | r => r
/-- a test that may end the def -/
def sIfD (i : Nat) (T : SB) (Bb : SS) : SS := fun ρ φ => match T ρ φ with
  | .ok true φ1 => (match Bb (ρ.set i none) φ1 with | .rt d φ2 => .rt d φ2 | _ => .bad)
  | .ok false φ1 => .nx ρ φ1
  | _ => .bad
/-- y = x[k]; y.append(e): x and y forgotten -/
def sPoke (i j k : Nat) (A : SX) : SS := fun ρ φ => match ρ[i]? with
  | some (some (.lst ds)) => (match ds[k]? with
    | some (.lst es) => if j < ρ.length ∧ es.length < sizeLine then (A ((ρ.set i none).set j none) φ).toR ((ρ.set i none).set j none) fun _ φ1 => .nx ((ρ.set i none).set j none) φ1 else .bad
    | _ => .bad)
  | _ => .bad
section
variable {X : Cx} {c : Ct} {w : Ow} {own o1 on : List Ms} {pos : Pos} {n : Nat}
theorem jd_enter (i : Nat) {x : Str} {e : Expr} {rest : List Stmt} {A : SX} {B : SS} {pos' : Pos} (hN : X.N.Nodup) (ha : EX X c own (.d n) w.W e A) (hr : JDs X c w own on i n rest B) (hi : X.N[i]? = some x := by rfl) (hx : Loc X.env.scope x := by first | exact Or.inl rfl | exact Or.inr rfl)
    (hs : swapsWith e (some (.Name x pos')) pos.line X.env = pure false := by rfl) (hf : X.fn x = true ∨ X.env.scope.names.lookup x = some .local := by first | exact .inl rfl | exact .inr rfl) (ho : w.ox own := by first | exact trivial | rfl) :
    SJs X c w own on (.Assign [.Name x pos'] e pos :: rest) (sIn i A B) := by
  refine PSs.weak (pss_cons (ps_set hN hi hx ha hs hf) hr) ?_
  rintro Dn σ H ⟨Z, ρ, φ, R0, h⟩
  unfold sIn at h
  by_cases hb : i < ρ.length
  · rw [if_pos hb] at h
    refine ⟨Z, ρ, φ, R0, ?_⟩
    unfold sSeq sSet at h
    cases hA : A ρ φ with
    | bad => rw [hA] at h; exact h.elim
    | ex y l φ1 => rw [hA] at h; exact fun cls dx Z' H' e' w' r => h cls dx σ Z' H' own ho (R0.more e' w') r
    | ok d φ1 =>
      rw [hA] at h
      intro v Z1 H1 e1 w1 r1
      have D0 := RD.enter R0 hb e1 w1 r1
      exact ⟨Z, _, ρ.set i none, φ1, d, v, D0, by rw [List.set_set]; exact h⟩
  · rw [if_neg hb] at h
    exact h.elim
theorem jd_set {i : Nat} (j : Nat) {st : Stmt} {rest : List Stmt} {A : SX} {B : SS} {m : Md} (hst : PS X st (tAsg (tE c own m w.W A) (gName j))) (hij : j ≠ i) (hm : (m = .o ∧ j < own.length ∧ o1 = own.set j .o) ∨ (m = .s ∧ o1 = own.set j .s)) (hr : JDs X c w o1 on i n rest B) (ho : w.ox own := by first | exact trivial | rfl) :
    JDs X c w own on i n (st :: rest) (sSeq (sHid i (sSet j A)) B) := by
  refine PSs.weak (pss_cons hst hr) ?_
  rintro Dn σ H ⟨Z, T, ρ, φ, d, v, D0, h⟩
  refine ⟨Z, ρ, φ, D0.R, ?_⟩
  unfold sSeq sHid sSet at h
  rw [set_back D0.un] at h
  have hl : i < ρ.length := (List.getElem?_eq_some_iff.mp D0.un).1
  cases hA : A ρ φ with
  | bad => rw [hA] at h; exact h.elim
  | ex y l φ1 => rw [hA] at h; exact fun cls dx Z' H' e' w' r => h cls dx σ Z' H' own ho (D0.R.more e' w') r
  | ok z φ1 =>
    rw [hA] at h
    intro u Z1 H1 e1 w1 r1
    have D1 := D0.more e1 w1
    have hh : PostS c w on (B ((ρ.set j (some z)).set i (some d)) φ1) Dn Z := by
      have : ((ρ.set i (some d))[i]?.getD none) = some d := by rw [List.getElem?_set_self hl]; rfl
      have h' : PostS c w on (B ((ρ.set j (some z)).set i ((ρ.set i (some d))[i]?.getD none)) φ1) Dn Z := h
      rw [this] at h'
      exact h'
    refine ⟨Z1, T, ρ.set j (some z), φ1, d, v, ?_, hh.shift e1.z⟩
    have un : (ρ.set j (some z))[i]? = some none := by rw [List.getElem?_set_ne hij]; exact D0.un
    have sv : (σ.set j (some u))[i]? = some (some v) := by rw [List.getElem?_set_ne hij]; exact D0.sv
    rcases hm with ⟨rfl, hi, rfl⟩ | ⟨rfl, rfl⟩
    · refine ⟨D0.R.setO e1 w1 hi r1, un, sv, D1.t0, D1.rep, D1.ft, fun k a e h1 h2 h3 h4 => ?_⟩
      rcases get_set h2 with ⟨rfl, q⟩ | ⟨hk, q⟩
      · cases q
        rcases get_set h4 with ⟨_, q4⟩ | ⟨q4, _⟩
        · cases q4
          unfold Res at r1
          rw [if_pos h3] at r1
          obtain ⟨b, o, eb, hn, _⟩ := r1
          cases eb
          refine Classical.byContradiction fun q => ?_
          rw [(D0.t0 a q).2.2.2] at hn
          exact q hn
        · exact absurd rfl q4
      · rw [List.getElem?_set_ne (Ne.symm hk)] at h1 h4
        exact D1.nd k a e h1 q h3 h4
    · refine ⟨D1.R.setS r1, un, sv, D1.t0, D1.rep, D1.ft, fun k a e h1 h2 h3 h4 => ?_⟩
      rcases get_set h1 with ⟨rfl, q⟩ | ⟨hk, q⟩
      · cases q
      · rw [List.getElem?_set_ne (Ne.symm hk)] at h2 h4
        exact D1.nd k a e q h2 h3 h4
theorem jd_if {i : Nat} {t : Expr} {body rest : List Stmt} {T : SB} {Bb B : SS} (hw : own[i]? = some .s) (ht : BX X c own W0 t T) (hb : SJs X c w own o1 body Bb) (hr : JDs X c w own on i n rest B) :
    JDs X c w own on i n (.If t body [] pos :: rest) (sSeq (sIfD i T Bb) B) := by
  refine PSs.weak (pss_cons (ps_if ht hb pss_nil) hr) ?_
  rintro Dn σ H ⟨Z, T', ρ, φ, d, v, D0, h⟩
  refine ⟨jn Z T', ρ.set i (some d), φ, D0.view hw, ?_⟩
  unfold sSeq sIfD at h
  rw [set_back D0.un] at h
  cases hT : T (ρ.set i (some d)) φ with
  | bad => rw [hT] at h; exact h.elim
  | ex y l φ1 => rw [hT] at h; exact h.elim
  | ok b φ1 =>
    rw [hT] at h
    intro Z1 H1 e1 w1
    obtain ⟨e2, w2⟩ := D0.R.wf.back (fun a o q => jn_l q) e1 w1
    have D1 := D0.more e2 w2
    cases b with
    | false => exact ⟨Z, T', ρ, φ1, d, v, D1, h⟩
    | true =>
      refine ⟨Z, ρ, φ1, D1.R, ?_⟩
      cases hB : Bb ρ φ1 with
      | rt z φ2 =>
        simp only [hB] at h
        exact h
      | nx _ _ => simp only [hB] at h; exact h.elim
      | bk _ _ => simp only [hB] at h; exact h.elim
      | ct _ _ => simp only [hB] at h; exact h.elim
      | ex _ _ _ _ => simp only [hB] at h; exact h.elim
      | bad => simp only [hB] at h; exact h.elim
theorem jd_poke (i j k : Nat) {x y : Str} {e : Expr} {A : SX} {B : SS} {rest : List Stmt} {p1 p2 p3 p4 p5 p6 apos cpos pos2 : Pos} {kk : Nat} (hK : X.K = c.K) (hNd : X.N.Nodup) (ha : EX X c own .s w.W e A) (hr : SJs X c w own on rest B) (hij : j ≠ i := by decide) (hw : own[j]? = some .s := by rfl)
    (hN : X.N[i]? = some x := by rfl) (hv : Vis X.env.scope x := by first | exact Or.inl rfl | exact Or.inr (Or.inl rfl) | exact Or.inr (Or.inr rfl))
    (hd : (x == ("__debug__" : Str)) = false := by decide) (hcd : (x == ("__classdict__" : Str)) = false := by decide)
    (hN' : X.N[j]? = some y := by rfl) (hv' : Vis X.env.scope y := by first | exact Or.inl rfl | exact Or.inr (Or.inl rfl) | exact Or.inr (Or.inr rfl))
    (hd' : (y == ("__debug__" : Str)) = false := by decide) (hcd' : (y == ("__classdict__" : Str)) = false := by decide)
    (hx : Loc X.env.scope y := by first | exact Or.inl rfl | exact Or.inr rfl)
    (hs1 : swapsWith (.Subscript (.Name x p1) (.Constant (.int k) kk p2) p3) (some (.Name y p4)) p5.line X.env = pure false := by rfl) (hf : X.fn y = true ∨ X.env.scope.names.lookup y = some .local := by first | exact .inl rfl | exact .inr rfl)
    (hbase : attributeBase (.Name y p6) "append" X.env (eval (.Name y p6) X.env) = eval (.Name y p6) X.env := by rfl)
    (hfew : ((backTo cpos (starEach [e] X.env)).all (fun x => !x.1) && (backToKw cpos (keywordEach [] X.env)).all (fun x => x.1.isSome) && decide ([e].length + ([] : List Keyword).length + (if ([] : List Keyword).isEmpty then 0 else 1) < 30)) = true := by rfl)
    (hline : (apos.endLine == cpos.line) = true := by rfl) (hse : starEach [e] X.env = (false, eval e X.env) :: starEach [] X.env := by rfl) (hplain : (backTo cpos (starEach [] X.env)).any (·.1) = false := by rfl)
    (hs : swapsWith (.Call (.Attribute (.Name y p6) "append" apos) [e] [] cpos) none pos2.line X.env = pure false := by rfl) (ho : w.ox own := by first | exact trivial | rfl)
    (hpl : PlainIx (.Constant (.int k) kk p2) := by exact fun _ _ => rfl) :
    JDs X c w own on i (n + 2) (.Assign [.Name y p4] (.Subscript (.Name x p1) (.Constant (.int k) kk p2) p3) p5 :: .Expr (.Call (.Attribute (.Name y p6) "append" apos) [e] [] cpos) pos2 :: rest) (sSeq (sPoke i j k A) B) := by
  refine PSs.weak (pss_cons (ps_set hNd hN' hx (pe_ix (ix_seq (X := X)) (pe_var hN hv hd hcd) pe_int hpl) hs1 hf)
    (pss_cons (ps_expr (pe_bm PySem.F.plainAttrs_list PySem.F.slot_list_append PySem.F.type_list_append mt_append (pe_var hN' hv' hd' hcd') (pa_cons ha pa_nil hse) hbase hfew hline hse hplain) hs) hr)) ?_
  rintro Dn σ H ⟨Z, T, ρ, φ, d, v, D0, h⟩
  have hl : i < ρ.length := (List.getElem?_eq_some_iff.mp D0.un).1
  unfold sSeq sPoke at h
  rw [set_back D0.un, List.getElem?_set_self hl, List.length_set] at h
  cases d with
  | lst ds =>
    cases hk : ds[k]? with
    | none => simp only [hk] at h; exact h.elim
    | some z =>
      cases z with
      | lst es =>
        simp only [hk] at h
        by_cases hc : j < ρ.length ∧ es.length < sizeLine
        · rw [if_pos hc] at h
          obtain ⟨a, vs, rfl, hTa, hit⟩ := D0.ft
          have hTa' : T a ≠ none := by rw [hTa]; simp
          have inl : ∀ {b : Addr} {us : List V} {l : List D}, T b = some (.lst us) → Rep c.K c.f (jn Z T) (.ref b) (.lst l) → Reps c.K c.f (jn Z T) us l := fun {b us l} hb r => by
            cases r with
            | cel e rc =>
              rw [jn_r (D0.t0 b (by rw [hb]; simp)).1, hb] at e
              cases e
              cases rc with
              | lst q => exact q
          have rs := inl hTa D0.rep
          obtain ⟨u, hu, ru⟩ := rs.get hk
          obtain ⟨b, us, rfl, hTb, _⟩ := hit k u _ hu hk
          have hTb' : T b ≠ none := by rw [hTb]; simp
          have rs' := inl hTb ru
          obtain ⟨z1, z2, z3, z4⟩ := D0.t0 b hTb'
          have hHb : H b = some (.lst us) := z4.trans hTb
          have hHa : H a = some (.lst vs) := ((D0.t0 a hTa').2.2.2).trans hTa
          refine ⟨.ref a, D0.sv, .inl ⟨a, vs, k, .ref b, rfl, rfl, SqL.of hHa, atI_nat hu, ?_⟩⟩
          have R1 := D0.R.hide j (some (.ref b))
          refine ⟨.ref b, List.getElem?_set_self (by rw [D0.R.len]; exact hc.1), .inl ⟨rfl, us, SqL.of hHb⟩, Z, _, φ, R1, ?_⟩
          have h' : PostS c w on (((A (ρ.set j none) φ).toR (ρ.set j none) fun _ φ1 => .nx (ρ.set j none) φ1).seq B) Dn Z := h
          cases hA : A (ρ.set j none) φ with
          | bad => rw [hA] at h'; exact h'.elim
          | ex y l φ1 => rw [hA] at h'; exact fun cls dx Z' H' e' w' r => h' cls dx _ Z' H' own ho (R1.more e' w') r
          | ok z φ1 =>
            rw [hA] at h'
            intro x Z1 H1 e1 w1 r1
            have hH1 : H1 b = some (.lst us) := e1.h b _ z3 hHb
            refine ⟨b, us, x, rfl, rfl, hH1, by rw [rs'.length]; exact hc.2, Z1, _, φ1, (R1.more e1 w1).poke (e1.n b (by rw [hHb]; simp) z1) z2 z3 (by rw [hH1]; simp) (fun k' e h1 h2 h3 h4 => ?_), PostS.shift h' e1.z⟩
            rcases get_set h2 with ⟨_, q⟩ | ⟨hk', q⟩
            · cases q
            · rw [List.getElem?_set_ne (Ne.symm hk')] at h4
              exact hTb' (D0.nd k' b e h1 q h3 h4)
        · rw [if_neg hc] at h; exact h.elim
      | _ => simp only [hk] at h; exact h.elim
  | _ => exact h.elim
theorem r_set (i : Nat) {m : Md} {x : Str} {e : Expr} {A : SX} {pos' : Pos} (hN : X.N.Nodup) (ha : EX X c own m w.W e A) (hi : X.N[i]? = some x := by rfl) (hx : Loc X.env.scope x := by first | exact Or.inl rfl | exact Or.inr rfl)
    (hs : swapsWith e (some (.Name x pos')) pos.line X.env = pure false := by rfl) (hf : X.fn x = true ∨ X.env.scope.names.lookup x = some .local := by first | exact .inl rfl | exact .inr rfl) :
    PS X (.Assign [.Name x pos'] e pos) (tAsg (tE c own m w.W A) (gName i)) := ps_set hN hi hx ha hs hf
theorem r_setLc (i : Nat) {y : Str} {py : Pos} {elt tg iter : Expr} {ifs : List Expr} {scope : Scope} (nm : List (Str × Nat)) {is : List Nat} {I : SA} {T : Tg} {tst : SB} {elt' : SX} {lcp : Pos} (hc : X.calm = true) (hN : X.N.Nodup) (ok : blkC X.N X.env.scope scope nm = true)
    (hi : IJ X c own true w.W tg iter I)
    (hg : ∀ (s : Shared) (H : Hp) (C : Addr) (cl : List (Str × Addr)) (fp : List Addr), TJ (X.blk s H scope (compEnvC scope cl C X.env) fp) c (ownB own (nm.map (·.2))) o1 is tg T)
    (ht : ∀ (s : Shared) (H : Hp) (C : Addr) (cl : List (Str × Addr)) (fp : List Addr), PTs (X.blk s H scope (compEnvC scope cl C X.env) fp) ifs (tB c o1 W0 tst))
    (he : ∀ (s : Shared) (H : Hp) (C : Addr) (cl : List (Str × Addr)) (fp : List Addr), EX (X.blk s H scope (compEnvC scope cl C X.env) fp) c o1 .s W0 elt elt')
    (hy : X.N[i]? = some y := by rfl) (hyl : X.env.scope.names.lookup y = some .local := by rfl) (hsw : swapsWith (.ListComp elt [⟨tg, iter, ifs, 0⟩] scope lcp) (some (.Name y py)) pos.line X.env = pure true := by exact sw_true rfl rfl rfl (by decide +kernel))
    (hs : ∀ x, foldedSetIterable iter X.env x = pure x := by intro _; rfl) (hsub : ∀ j ∈ is, j ∈ nm.map (·.2) := by decide) :
    PS X (.Assign [.Name y py] (.ListComp elt [⟨tg, iter, ifs, 0⟩] scope lcp) pos) (tAsg (tE c own .o w.W (eLc I T tst elt' (nm.map (·.2)))) (gName i)) :=
  PS.weak (ps_setLc hc hN hy hyl hsw hi (blkOk_by ok) hg ht he hs) fun Dn σ H h => lc_read hsub h
end
end Pf

set_option Elab.async false
set_option linter.all false
set_option maxRecDepth 100000
set_option maxHeartbeats 4000000
namespace Pf
open PySem PySem.Spec PyProof.Rows L2

/-! ## dicts: d[k] = x, k in d -/
section
variable {X : Cx} {c : Ct} {w : Ow} {own on o1 : List Ms} {m : Md} {W : WX} {pos : Pos} {A B : SX} {o k : Expr}
theorem Rl.cellK {Z H : Hp} {ρ : En} {φ : Fd} {σ : L2.St} (R0 : Rl c own Z ρ φ σ H) {i : Nat} {ds : List (Key × D)} (ho : own[i]? = some .o) (hd : ρ[i]? = some (some (.dk ds))) : ∃ a vs, σ[i]? = some (some (.ref a)) ∧ H a = some (.dK vs) ∧ KReps c.K c.f Z vs ds ∧ Z a = none := by
  obtain ⟨u, hu, ru⟩ := R0.ow i _ hd ho
  unfold Res at ru
  rw [if_pos (by rfl)] at ru
  obtain ⟨a, o, rfl, _, hz, _, ha, rc⟩ := ru
  cases rc with
  | dk q => exact ⟨a, _, hu, ha, q, hz⟩
def sPutK (i : Nat) (A B : SX) : SS := fun ρ φ => (A ρ φ).toR ρ fun d φ1 => match ρ[i]? with
  | some (some (.dk l)) => (B ρ φ1).toR ρ fun k φ2 => (match keyD k with
    | some key => if l.length < sizeLine then .nx (ρ.set i (some (.dk (putD l key d)))) φ2 else .bad
    | _ => .bad)
  | _ => .bad
theorem s_putK (i : Nat) {x : Str} {e k : Expr} {A B : SX} {p p2 : Pos} (hu : X.A.units + 64 < cLine) (ha : EX X c own .s w.W e A) (hk : EX X c own .p w.W k B) (hw : own[i]? = some .o := by rfl) (hN : X.N[i]? = some x := by rfl) (hv : Vis X.env.scope x := by first | exact Or.inl rfl | exact Or.inr (Or.inl rfl) | exact Or.inr (Or.inr rfl))
    (hd : (x == ("__debug__" : Str)) = false := by decide) (hcd : (x == ("__classdict__" : Str)) = false := by decide)
    (hst : ∀ v, assign (.Subscript (.Name x p) k p2) X.env v = (do
      let ov ← holding [v] (eval (.Name x p) X.env)
      let iv ← holding [v, ov] (eval k X.env)
      standAt p2
      holding [v, ov, iv] (setItem ov iv v)
      release [v, ov, iv] []) := by intro _; rfl)
    (hs : swapsWithSole [.Subscript (.Name x p) k p2] e pos.line X.env = pure false := by rfl) (hsw : swappedStores [.Subscript (.Name x p) k p2] e X.env = pure none := by rfl)
    (h1 : (assignEach [.Subscript (.Name x p) k p2] X.env).map (·.2) = [assign (.Subscript (.Name x p) k p2) X.env] := by rfl) (ho : w.ox own := by first | exact trivial | rfl) :
    SJ X c w own own (.Assign [.Subscript (.Name x p) k p2] e pos) (sPutK i A B) := by
  refine PS.weak (ps_asg ha (pg_sub (pe_var hN hv hd hcd) hk (set_dict (by omega)) hst) hs hsw h1) ?_
  rintro Dn σ H ⟨Z, ρ, φ, R0, h⟩
  refine ⟨Z, ρ, φ, R0, Post.toS (w := w) ho R0 h fun d φ1 v Z1 H1 e1 w1 r1 h1 => ?_⟩
  split at h1
  · rename_i l hdd
    have R1 := R0.more e1 w1
    obtain ⟨a, vs, hav, hH, rs, hz⟩ := R1.cellK hw hdd
    refine ⟨.ref a, hav, Z1, ρ, φ1, R1, Post.toS (w := w) ho R1 h1 fun kd φ2 kv Z2 H2 e2 w2 r2 h2 => ?_⟩
    have R2 := R1.more e2 w2
    obtain ⟨b, us, hb, hH2, rs2, hz2⟩ := R2.cellK hw hdd
    rw [hav] at hb
    cases hb
    cases hk : keyD kd with
    | none => simp only [hk] at h2; exact h2.elim
    | some key =>
      simp only [hk] at h2
      by_cases hl : l.length < sizeLine
      · rw [if_pos hl] at h2
        have hy : kv = kV key := keyD_rep r2 hk
        refine ⟨a, _, rfl, by rw [hy]; exact DPut.k hH2 (by rw [rs2.length]; exact hl), ?_⟩
        exact h2 σ Z2 _ Sub.refl (R2.write hw hdd rfl hav (.dk (rs2.put (Rep.mono e2.z r1))))
      · rw [if_neg hl] at h2; exact h2.elim
  · exact h1.elim
/-- k in d: b true for «not in» -/
def eDIn (neg : Bool) (A B : SX) : SX := fun ρ φ => (A ρ φ).bind fun kd φ1 => (B ρ φ1).bind fun d φ2 => match d with
  | .dk l => (match keyD kd with
    | some key => .ok (.bl (if neg = true then !(valD l key).isSome else (valD l key).isSome)) φ2
    | none => .bad)
  | _ => .bad
theorem din_core {neg : Bool} {σ : L2.St} {H : Hp} {Q : VK} (h : tE c own m W (eDIn neg A B) σ H Q) :
    tE c own .p W A σ H fun y H1 => tE c own .p W B σ H1 fun x H2 => ∃ a o, x = V.ref a ∧ DGet H2 a y o ∧ Q (.bl (if neg = true then !o.isSome else o.isSome)) H2 := by
  obtain ⟨Z, ρ, φ, R, h⟩ := h
  refine ⟨Z, ρ, φ, R, Post.bindE h fun kd φ1 y Z1 H1 e1 w1 r1 h1 => ?_⟩
  refine ⟨Z1, ρ, φ1, R.more e1 w1, Post.bindE h1 fun d φ2 x Z2 H2 e2 w2 r2 h2 => ?_⟩
  cases d with
  | dk l =>
    obtain ⟨a, kvs, rfl, ha, rk⟩ := (show Res .p c.K c.f H2 Z2 H2 x (.dk l) from r2).dk w2
    cases hk : keyD kd with
    | none => simp only [hk] at h2; exact h2.elim
    | some key =>
      simp only [hk] at h2
      have hy : y = kV key := keyD_rep (r1.pmono e2) hk
      refine ⟨a, valV kvs key, rfl, by rw [hy]; exact DGet.k ha, ?_⟩
      have : (valV kvs key).isSome = (valD l key).isSome := by
        cases e : valD l key with
        | none => rw [rk.miss e]; rfl
        | some z =>
          obtain ⟨u, e4, _⟩ := rk.hit e
          rw [e4]; rfl
      rw [this]
      exact h2.nowB w2
  | _ => exact h2.elim
theorem x_din (hu : X.A.units + 64 < cLine) (hk : EX X c own .p W k A) (ho : EX X c own .p W o B) (hm : behindInMarks .In o = false := by rfl) : EX X c own .o W (.Compare k [.In] [o] pos) (eDIn false A B) :=
  PE.weak (pe_cmp (pc_din (by omega) hk ho) hm) fun σ H Q h => din_core h
theorem x_dnotin (hu : X.A.units + 64 < cLine) (hk : EX X c own .p W k A) (ho : EX X c own .p W o B) (hm : behindInMarks .NotIn o = false := by rfl) : EX X c own .o W (.Compare k [.NotIn] [o] pos) (eDIn true A B) :=
  PE.weak (pe_cmp (pc_dnotin (by omega) hk ho) hm) fun σ H Q h => din_core h
theorem b_dcore {neg : Bool} {σ : L2.St} {H : Hp} {Q : Bool → Hp → Prop} (h : tB c own W (bVal (eDIn neg A B)) σ H Q) : tE c own .o W (eDIn neg A B) σ H fun v H' => ∃ b, v = .bl b ∧ Q b H' := by
  obtain ⟨Z, ρ, φ, R, h⟩ := h
  refine ⟨Z, ρ, φ, R, Post.bindB h fun d φ1 v Z1 H1 e1 w1 r1 h1 => ?_⟩
  cases d with
  | bl b => exact ⟨b, r1.bl, h1 Z1 H1 .refl w1⟩
  | _ => exact h1.elim
theorem b_din (hu : X.A.units + 64 < cLine) (hk : EX X c own .p W k A) (ho : EX X c own .p W o B) (hm : behindInMarks .In o = false := by rfl) : BX X c own W (.Compare k [.In] [o] pos) (bVal (eDIn false A B)) :=
  PT.weak (pt_cmp (pc_din (by omega) hk ho) hm) fun σ H Q h => din_core (b_dcore h)
theorem b_dnotin (hu : X.A.units + 64 < cLine) (hk : EX X c own .p W k A) (ho : EX X c own .p W o B) (hm : behindInMarks .NotIn o = false := by rfl) : BX X c own W (.Compare k [.NotIn] [o] pos) (bVal (eDIn true A B)) :=
  PT.weak (pt_cmp (pc_dnotin (by omega) hk ho) hm) fun σ H Q h => din_core (b_dcore h)
end

/-! ## for y in x: y.append(e), x's data apart -/
def pokeGo (A : SX) (ρ : En) : Nat → Fd → Option Fd
  | 0, φ => some φ
  | n + 1, φ => match A ρ φ with
    | .ok _ φ1 => pokeGo A ρ n φ1
    | _ => none
def pokB (n : Nat) : D → Bool
  | .lst es => decide (es.length ≤ 1000) && decide (es.length ≠ n)
  | _ => false
def sPokeAll (i j : Nat) (A : SX) : SS := fun ρ φ => match ρ[i]? with
  | some (some (.lst ds)) => if j < ρ.length ∧ ds.length ≤ 1000 ∧ ds.all (pokB ds.length) = true then (match pokeGo A ((ρ.set i none).set j none) ds.length φ with
      | some φ1 => .nx ((ρ.set i none).set j none) φ1
      | none => .bad) else .bad
  | _ => .bad
section
variable {X : Cx} {c : Ct} {w : Ow} {own o1 on : List Ms} {pos : Pos} {n : Nat}
theorem Rl.hideR {Z H : Hp} {ρ : En} {φ : Fd} {σ : L2.St} (R : Rl c own Z ρ φ σ H) {i : Nat} (h : ρ[i]? = some none) (y : Option V) : Rl c own Z ρ φ (σ.set i y) H := by
  have := R.hide i y
  have e : ρ.set i none = ρ := by
    refine List.ext_getElem? fun j => ?_
    by_cases hj : j = i
    · subst hj
      rw [List.getElem?_set_self (List.getElem?_eq_some_iff.mp h).1, h]
    · rw [List.getElem?_set_ne (Ne.symm hj)]
  rw [e] at this
  exact this
theorem jd_pokeAll (i j : Nat) {x y : Str} {e : Expr} {A : SX} {B : SS} {rest : List Stmt} {p1 p4 p6 fpos apos cpos pos2 : Pos} (hK : X.K = c.K) (hps : PassesOwn (model X.prog X.w) X.A X.env X.xe) (hcalm : X.calm = true) (hNd : X.N.Nodup) (ha : EX X c own .s w.W e A) (hr : SJs X c w own on rest B) (hij : j ≠ i := by decide) (hw : own[j]? = some .s := by rfl)
    (hN : X.N[i]? = some x := by rfl) (hv : Vis X.env.scope x := by first | exact Or.inl rfl | exact Or.inr (Or.inl rfl) | exact Or.inr (Or.inr rfl))
    (hd : (x == ("__debug__" : Str)) = false := by decide) (hcd : (x == ("__classdict__" : Str)) = false := by decide)
    (hN' : X.N[j]? = some y := by rfl) (hv' : Vis X.env.scope y := by first | exact Or.inl rfl | exact Or.inr (Or.inl rfl) | exact Or.inr (Or.inr rfl))
    (hd' : (y == ("__debug__" : Str)) = false := by decide) (hcd' : (y == ("__classdict__" : Str)) = false := by decide)
    (hx : Loc X.env.scope y := by first | exact Or.inl rfl | exact Or.inr rfl)
    (hf : X.fn y = true ∨ X.env.scope.names.lookup y = some .local := by first | exact .inl rfl | exact .inr rfl)
    (hbase : attributeBase (.Name y p6) "append" X.env (eval (.Name y p6) X.env) = eval (.Name y p6) X.env := by rfl)
    (hfew : ((backTo cpos (starEach [e] X.env)).all (fun x => !x.1) && (backToKw cpos (keywordEach [] X.env)).all (fun x => x.1.isSome) && decide ([e].length + ([] : List Keyword).length + (if ([] : List Keyword).isEmpty then 0 else 1) < 30)) = true := by rfl)
    (hline : (apos.endLine == cpos.line) = true := by rfl) (hse : starEach [e] X.env = (false, eval e X.env) :: starEach [] X.env := by rfl) (hplain : (backTo cpos (starEach [] X.env)).any (·.1) = false := by rfl)
    (hs : swapsWith (.Call (.Attribute (.Name y p6) "append" apos) [e] [] cpos) none pos2.line X.env = pure false := by rfl) (ho : w.ox own := by first | exact trivial | rfl)
    (hfs : ∀ v, foldedSetIterable (.Name x p1) X.env v = pure v := by intro _; rfl) :
    JDs X c w own on i (n + 2) (.For (.Name y p4) (.Name x p1) [.Expr (.Call (.Attribute (.Name y p6) "append" apos) [e] [] cpos) pos2] [] fpos :: rest) (sSeq (sPokeAll i j A) B) := by
  refine PSs.weak (pss_cons (ps_for hps hcalm (pi_list (pe_var hN hv hd hcd)) (pg_name hNd hN' hx hf)
    (pss_cons (ps_expr (pe_bm PySem.F.plainAttrs_list PySem.F.slot_list_append PySem.F.type_list_append mt_append (pe_var hN' hv' hd' hcd') (pa_cons ha pa_nil hse) hbase hfew hline hse hplain) hs) pss_nil) hfs) hr) ?_
  rintro Dn σ H ⟨Z, T, ρ, φ, d, v, D0, h⟩
  have hl : i < ρ.length := (List.getElem?_eq_some_iff.mp D0.un).1
  unfold sSeq sPokeAll at h
  rw [set_back D0.un, List.getElem?_set_self hl, List.length_set] at h
  cases d with
  | lst ds =>
    simp only at h
    by_cases hc : j < ρ.length ∧ ds.length ≤ 1000 ∧ ds.all (pokB ds.length) = true
    · rw [if_pos hc] at h
      obtain ⟨hc1, hc2, hc3⟩ := hc
      cases hgo : pokeGo A (ρ.set j none) ds.length φ with
      | none => simp only [hgo] at h; exact h.elim
      | some φe =>
        simp only [hgo] at h
        obtain ⟨a, vs, rfl, hTa, hit⟩ := D0.ft
        have hTa' : T a ≠ none := by rw [hTa]; simp
        have inl : ∀ {b : Addr} {us : List V} {l : List D}, T b = some (.lst us) → Rep c.K c.f (jn Z T) (.ref b) (.lst l) → Reps c.K c.f (jn Z T) us l := fun {b us l} hb r => by
          cases r with
          | cel e rc =>
            rw [jn_r (D0.t0 b (by rw [hb]; simp)).1, hb] at e
            cases e
            cases rc with
            | lst q => exact q
        have rs := inl hTa D0.rep
        have hHa : H a = some (.lst vs) := ((D0.t0 a hTa').2.2.2).trans hTa
        -- each item: a cell in T, other than a
        have item : ∀ (k : Nat) (u : V), vs[k]? = some u → ∃ b us, u = .ref b ∧ T b = some (.lst us) ∧ us.length ≤ 1000 ∧ b ≠ a := fun k u hu => by
          obtain ⟨dk, hdk, ru⟩ := rs.getV hu
          rw [List.all_eq_true] at hc3
          have hp := hc3 dk (List.mem_of_getElem? hdk)
          cases dk with
          | lst es =>
            have hp' : (decide (es.length ≤ 1000) && decide (es.length ≠ ds.length)) = true := hp
            rw [Bool.and_eq_true, decide_eq_true_eq, decide_eq_true_eq] at hp'
            obtain ⟨b, us, rfl, hTb, _⟩ := hit k u _ hu hdk
            have rs' := inl hTb ru
            refine ⟨b, us, rfl, hTb, by rw [rs'.length]; exact hp'.1, fun e => ?_⟩
            rw [e, hTa] at hTb
            cases hTb
            exact hp'.2 (by rw [← rs'.length, rs.length])
          | _ => cases hp
        show L2.tFor _ _ _ _ _ _
        refine ⟨.ref a, D0.sv, a, rfl, ⟨vs, SqL.of hHa⟩, ?_⟩
        have R0 : Rl c own Z (ρ.set j none) φ σ H := by
          have hj2 : ∃ y, σ[j]? = some y := ⟨σ[j]'(by rw [D0.R.len]; exact hc1), List.getElem?_eq_getElem (by rw [D0.R.len]; exact hc1)⟩
          obtain ⟨y, hy⟩ := hj2
          have := D0.R.hide j y
          have e : σ.set j y = σ := by
            refine List.ext_getElem? fun k => ?_
            by_cases hk : k = j
            · subst hk
              rw [List.getElem?_set_self (List.getElem?_eq_some_iff.mp hy).1, hy]
            · rw [List.getElem?_set_ne (Ne.symm hk)]
          rw [e] at this
          exact this
        have rj : (ρ.set j none)[j]? = some none := List.getElem?_set_self hc1
        refine ⟨fun k m σn Hn => m = ds.length - k ∧ k ≤ ds.length ∧ ∃ Zn φn, Sub Z Zn ∧ Rl c own Zn (ρ.set j none) φn σn Hn ∧ pokeGo A (ρ.set j none) (ds.length - k) φn = some φe ∧ Hn a = some (.lst vs) ∧
            (∀ b, T b ≠ none → Zn b = none ∧ Hn b ≠ none) ∧ (∀ (q : Nat) b, vs[q]? = some (.ref b) → ∃ us, Hn b = some (.lst us) ∧ us.length ≤ 1000 + k) ∧ (∀ (q : Nat) (b : Addr) (e : D), own[q]? = some .o → (ρ.set j none)[q]? = some (some e) → e.mt = true → σn[q]? = some (some (.ref b)) → T b = none),
          ⟨ds.length, by simp, Nat.zero_le _, Z, φ, Sub.refl, R0, by simpa using hgo, hHa, fun b hb => ⟨(D0.t0 b hb).1, by rw [(D0.t0 b hb).2.2.2]; exact hb⟩, fun q b hq => ?_, fun q b e h1 h2 h3 h4 => ?_⟩, ?_⟩
        · obtain ⟨b', us, eb, hTb, hul, _⟩ := item q _ hq
          cases eb
          exact ⟨us, ((D0.t0 b (by rw [hTb]; simp)).2.2.2).trans hTb, by omega⟩
        · rcases get_set h2 with ⟨_, q⟩ | ⟨hq, q2⟩
          · cases q
          · exact D0.nd q b e h1 q2 h3 h4
        · rintro k m σn Hn ⟨rfl, hk, Zn, φn, kz, Rn, hg, hna, hzT, hcell, hnd⟩
          by_cases hlt : k < ds.length
          · have hkv : k < vs.length := by rw [rs.length]; exact hlt
            obtain ⟨u, hu⟩ : ∃ u, vs[k]? = some u := ⟨_, List.getElem?_eq_getElem hkv⟩
            obtain ⟨b, us0, rfl, hTb, _, hba⟩ := item k u hu
            obtain ⟨us, hHb, hul⟩ := hcell k b hu
            have hTb' : T b ≠ none := by rw [hTb]; simp
            obtain ⟨z1, z2, z3, z4⟩ := D0.t0 b hTb'
            refine .inr ⟨⟨vs, .ref b, SqL.of hna, hu⟩, fun σ' H' => ∃ m', m' < ds.length - k ∧ (m' = ds.length - (k + 1) ∧ k + 1 ≤ ds.length ∧ ∃ Zn φn, Sub Z Zn ∧ Rl c own Zn (ρ.set j none) φn σ' H' ∧ pokeGo A (ρ.set j none) (ds.length - (k + 1)) φn = some φe ∧ H' a = some (.lst vs) ∧
              (∀ b, T b ≠ none → Zn b = none ∧ H' b ≠ none) ∧ (∀ (q : Nat) b, vs[q]? = some (.ref b) → ∃ us, H' b = some (.lst us) ∧ us.length ≤ 1000 + (k + 1)) ∧ (∀ (q : Nat) (b : Addr) (e : D), own[q]? = some .o → (ρ.set j none)[q]? = some (some e) → e.mt = true → σ'[q]? = some (some (.ref b)) → T b = none)), fun _ _ q => q, fun xv Hx hx => ?_⟩
            obtain ⟨rfl, hx2⟩ := hx
            have hxv := hx2 vs (SqL.of hna)
            rw [hu] at hxv
            cases hxv
            have R1 := Rn.hideR rj (some (.ref b))
            refine ⟨.ref b, List.getElem?_set_self (by rw [Rn.len, List.length_set]; exact hc1), .inl ⟨rfl, us, SqL.of hHb⟩, Zn, _, φn, R1, ?_⟩
            have hs' : ds.length - k = (ds.length - (k + 1)) + 1 := by omega
            rw [hs'] at hg
            unfold pokeGo at hg
            cases hA : A (ρ.set j none) φn with
            | bad => rw [hA] at hg; cases hg
            | ex _ _ _ => rw [hA] at hg; cases hg
            | ok z φ1 =>
              rw [hA] at hg
              intro xw Z1 H1 e1 w1 r1
              have hH1 : H1 b = some (.lst us) := e1.h b _ z3 hHb
              have haf : a ≠ c.f := (D0.t0 a hTa').2.2.1
              refine ⟨b, us, xw, rfl, rfl, hH1, by rw [sizeLine_eq]; omega, ds.length - (k + 1), by omega, rfl, hlt, Z1, φ1, kz.trans e1.z, (R1.more e1 w1).poke (e1.n b (by rw [hHb]; simp) (hzT b hTb').1) z2 z3 (by rw [hH1]; simp) (fun q e h1 h2 h3 h4 => ?_), hg, ?_, fun b' hb' => ?_, fun q b' hq => ?_, fun q b' e h1 h2 h3 h4 => ?_⟩
              · rcases get_set h4 with ⟨rfl, _⟩ | ⟨hq, q4⟩
                · rw [hw] at h1; cases h1
                · exact hTb' (hnd q b e h1 h2 h3 q4)
              · rw [upd_ne (Ne.symm hba)]
                exact e1.h a _ haf hna
              · refine ⟨e1.n b' (hzT b' hb').2 (hzT b' hb').1, ?_⟩
                by_cases hbb : b' = b
                · rw [hbb, upd_same]; simp
                · rw [upd_ne hbb]; exact e1.k b' (hzT b' hb').2
              · obtain ⟨us2, h5, h6⟩ := hcell q b' hq
                by_cases hbb : b' = b
                · subst hbb
                  rw [hHb] at h5
                  cases h5
                  exact ⟨us ++ [xw], upd_same, by rw [List.length_append, List.length_singleton]; omega⟩
                · obtain ⟨_, _, eb2, hTb2, _, _⟩ := item q _ hq
                  cases eb2
                  exact ⟨us2, by rw [upd_ne hbb]; exact e1.h b' _ ((D0.t0 b' (by rw [hTb2]; simp)).2.2.1) h5, by omega⟩
              · rcases get_set h4 with ⟨rfl, _⟩ | ⟨hq, q4⟩
                · rw [hw] at h1; cases h1
                · exact hnd q b' e h1 h2 h3 q4
          · have hke : k = ds.length := by omega
            refine .inl ⟨⟨vs, SqL.of hna, by rw [rs.length, hke]; exact Nat.le_refl _⟩, ?_⟩
            rw [hke, Nat.sub_self] at hg
            cases hg
            exact ⟨Zn, _, _, Rn, PostS.shift h kz⟩
    · rw [if_neg hc] at h; exact h.elim
  | _ => exact h.elim
end
end Pf

set_option Elab.async false
set_option linter.all false
set_option maxRecDepth 100000
set_option maxHeartbeats 4000000
namespace PySem.W
open PySem PySem.Calls PyProof.Rows PyProof.V PySem.Spec
section
variable {prog : Program} {w : World} {A : Around} {E : Value → Shared → Prop} {s : Shared} {Q : Value → Shared → Prop} {T : String} {r d : Addr} {n : Nat} {P : Nat → Value → Prop} {OK : Heap → Prop}
theorem sorted_src (K : KdlSrc prog w T r d n P OK) (hh : A.handled = none) (hok : OK s.heap) (hn : n ≤ sizeLine)
    (h : ∀ (h' : Heap) (tk : Nat) (its : List Value), (∀ b o, s.heap.get? b = some o → h'.get? b = some o) → its.length = n → (∀ j v, its[j]? = some v → P j v) →
      ∃ κ, SortsAt prog w A.in1.in1 { s with heap := sortingHeap (h'.push (seqObj "list" its.toArray 0)) h'.objs.size its, toks := tk } κ its ∧
        Q (.ref h'.objs.size) { s with heap := sortedHeap (h'.push (seqObj "list" its.toArray 0)) h'.objs.size its (sortVals κ false its its).toArray, toks := tk }) :
    wpAny (model prog w) A (call (.builtin "sorted") [.ref r]) Q E s := by
  refine call_function_entry kind_sorted plain_sorted entry_sorted (args_sorted1 _) ?_
  unfold Builtin.«sorted»
  refine wpAny_bind (m := checkCount "sorted" 1 1 _) (wpAny_pure ?_)
  refine wpAny_bind (kdu_collect (A := A.in1) K hh hok hn fun h' tk acc hk hacc => ?_)
  have hl : acc.toList.length = n := by rw [Array.length_toList]; exact hacc.1
  refine wpAny_bind (wpAny_newList ?_ (by rw [hl]; exact hn))
  obtain ⟨κ, S, q⟩ := h h' tk acc.toList hk hl (fun j v e => hacc.2 j v (by rw [← Array.getElem?_toList]; exact e))
  have ho : (h'.push (seqObj "list" acc.toList.toArray 0)).get? h'.objs.size = some (seqObj "list" acc.toList.toArray 0) := Heap.get?_push_size _ rfl
  show wpAny _ _ _ _ _ { s with heap := h'.push (seqObj "list" acc.toList.toArray 0), toks := tk }
  refine wpAny_bind (wpAny_holding (wpAny_call_entry slot_list_sort ⟨_, ho, rfl⟩ entry_list_sort ?body (args_list_sort _)))
  case body =>
    exact list_sort_vals (s := { s with heap := h'.push (seqObj "list" acc.toList.toArray 0), toks := tk }) ho S (by rw [hl]; exact hn) ⟨_, rfl, wpAny_pure ⟨_, rfl, q⟩⟩
end
end PySem.W
namespace Pf
open PySem PySem.Spec PyProof.Rows L2
/-! ## sorted(d.values()), keys that are tuples -/
def rSortV (K : PySem.W.Frag) : V → Hp → VK → Prop := fun x H Q => ∃ (a : Addr) (kvs : List (List Key × V)) (ps : List (V × PyData)), x = V.ref a ∧ H a = some (.dT kvs) ∧ kvs.map (·.2) = ps.map Prod.fst ∧ (∀ p ∈ ps, Dp K H p.1 p.2) ∧
  (∀ p ∈ ps, ∀ q ∈ ps, PySem.W.alike p.2 q.2 = true) ∧ (∀ p ∈ ps, SeqAt.shaped p.2 = true) ∧ PySem.W.Sortable (ps.map Prod.snd) ∧ ∀ (p : Addr), H p = none → Q (.ref p) (upd H p (.lst ((ps.mergeSort leP).map Prod.fst)))
section
variable {X : Cx} {o : Expr} {p pos apos mpos : Pos} {td : TE}
theorem pair_vals {H : Hp} {kvs : List (List Key × V)} {xs : List (List Key × Addr × Value)} (r : KT H kvs xs) : Vals (kvs.map (·.2)) (xs.map (·.2.2)) := by
  unfold KT at r
  induction r with
  | nil => exact .nil
  | cons h t ih => exact .cons h.2.2 ih
theorem pe_sortVals (hc : X.calm = true) (hu : X.A.units + 66 < cLine) (hg : Gl X "sorted") (hm : X.mg "sorted" = none) (hd : PE X o td) (hbase : attributeBase o "values" X.env (eval o X.env) = eval o X.env := by rfl) (hline : (apos.endLine == mpos.line) = true := by rfl)
    (hse : starEach [Expr.Call (.Attribute o "values" apos) [] [] mpos] X.env = [(false, eval (Expr.Call (.Attribute o "values" apos) [] [] mpos) X.env)] := by rfl) :
    PE X (.Call (.Name "sorted" p) [.Call (.Attribute o "values" apos) [] [] mpos] [] pos) (fun σ H Q => td σ H fun x H1 => rSortV X.K x H1 Q) := by
  refine ⟨fun pins s σ H Q I h => ?_⟩
  refine wpAny_Call_Name_kw (ld_blt I hg hm (u := .builtin "sorted") (by first | rfl | decide +kernel) ?_ (by first | decide +kernel | decide) (by first | decide +kernel | decide))
  rw [hse]
  refine PySem.callWith_builtin1 (wpAny_Call_method0_late hbase hline (thn (hd.run pins s σ H _ I h) fun v s1 ⟨x, H1, I1, r1, a, kvs, ps, ex, ha, hv, hdp, hal, hsh, hst, q⟩ => ?_))
  subst ex
  obtain rfl : v = Value.ref a := r1
  obtain ⟨z, hsys, xs', rel, o', es, ep, ho, hx, hdat, hes, his, hn⟩ := dt_of I1.hok ha
  refine ⟨"dict", "dict.values", F.plainAttrs_dict, F.slot_dict_values, F.type_dict_values, ⟨o', ho, hx.1⟩, fun b e => ?_, Calls.callWith_builtin rfl (PySem.evalArgs_none ?_)⟩
  · cases e
    exact ⟨o', ho, hx.2.1⟩
  have hraw : s1.heap.DictRaw a es ep := ⟨o', ho, hx, hdat⟩
  refine call_meetsIn F.slot_dict_values ⟨o', ho, hx.1⟩ F.entry_dict_values (F.args_dict_values_1 _) (meets_dict_values_raw a hsys) ⟨⟨es, ep, hraw⟩, ?_⟩
  have k1 : ∀ b u, s1.heap.get? b = some u → (s1.heap.push { cls := .type "dict_values", data := .fields #[.ref a] }).get? b = some u := fun b u e => Heap.get?_push_of_some _ e
  have l2 : es.size = xs'.length := size_of_entries hes
  have l1 : kvs.length = xs'.length := Paired.length rel
  refine PySem.W.sorted_src (KdlSrc.rawValues (r := s1.heap.objs.size) (d := a) (es := es) (ep := ep)) (I.ok.hd hc) ⟨⟨_, Heap.get?_push_size _ rfl, rfl, rfl⟩, hraw.at fun o e => k1 _ _ e⟩ (by omega) fun h' tk its hk hl hvv => ?_
  have hits : its = xs'.map (·.2.2) := by
    refine List.ext_getElem? fun j => ?_
    cases hj : its[j]? with
    | none =>
      rw [List.getElem?_eq_none_iff] at hj
      rw [List.getElem?_map, List.getElem?_eq_none (by omega)]
      rfl
    | some v =>
      obtain ⟨hi, rfl⟩ := hvv j v hj
      have e1 := entry_at hes j
      rw [Array.getElem?_eq_getElem hi] at e1
      obtain ⟨y, e2, e3⟩ := Option.map_eq_some_iff.mp e1.symm
      rw [List.getElem?_map, e2, ← e3]
      rfl
  have rv : Vals (ps.map Prod.fst) its := by
    rw [← hv, hits]
    exact pair_vals rel
  have e0 : PySem.W.EachIs (fun v (b : V × PyData) => RelV b.1 v) its ps := vals_each rv
  have old : ∀ b o, s1.heap.get? b = some o → b ≠ h'.objs.size ∧ (h'.push (seqObj "list" its.toArray 0)).get? b = some o := fun b o e => by
    have e2 := hk b o (k1 b o e)
    exact ⟨Nat.ne_of_lt (Heap.lt_size e2), Heap.get?_push_of_some _ e2⟩
  have keep : ∀ b o, s1.heap.get? b = some o → (PySem.W.sortingHeap (h'.push (seqObj "list" its.toArray 0)) h'.objs.size its).get? b = some o := fun b o e => PySem.W.sortingHeap_old (old b o e).1 (old b o e).2
  have e1 : PySem.W.EachIs (fun v (b : V × PyData) => RelV b.1 v ∧ ∃ as, Reads (PySem.W.sortingHeap (h'.push (seqObj "list" its.toArray 0)) h'.objs.size its) v b.2 as) its ps :=
    each_mono e0 fun v b hb rb => by
      obtain ⟨as, ra⟩ := Dp.reads I1 b.2 b.1 v (hdp b hb) rb
      exact ⟨rb, as, PyProof.Rows.Reads.keeps keep ra⟩
  have e2 := each_map (R := fun v d => ∃ as, Reads (PySem.W.sortingHeap (h'.push (seqObj "list" its.toArray 0)) h'.objs.size its) v d as) Prod.snd (each_mono e1 fun _ _ _ q => q.2)
  have hAll : PySem.W.AllAlike (ps.map Prod.snd) := fun d h1 d' h2 => by
    obtain ⟨p, hp, rfl⟩ := List.mem_map.mp h1
    obtain ⟨p', hp', rfl⟩ := List.mem_map.mp h2
    exact hal p hp p' hp'
  have S := PySem.W.SortsAt.data (prog := X.prog) (w := X.w) (A := X.A.in1.in1) (s := { s1 with heap := PySem.W.sortingHeap (h'.push (seqObj "list" its.toArray 0)) h'.objs.size its, toks := tk }) e2 hAll hst fun d h1 => by
    obtain ⟨p, hp, rfl⟩ := List.mem_map.mp h1
    have := SeqAt.depth_of_shaped (hsh p hp)
    show X.A.units + 1 + 1 + _ < cLine
    omega
  refine ⟨_, S, ?_⟩
  have ho2 : (h'.push (seqObj "list" its.toArray 0)).get? h'.objs.size = some (seqObj "list" its.toArray 0) := Heap.get?_push_size _ rfl
  obtain ⟨en, he'⟩ := sortedHeap_at (out := (PySem.W.sortVals (PySem.W.dataKind (PySem.W.sortingHeap (h'.push (seqObj "list" its.toArray 0)) h'.objs.size its) (ps.map Prod.snd)) false its its).toArray) ho2
  have kk : PySem.W.EachIs (fun v (b : V × PyData) => (PySem.W.dataKind (PySem.W.sortingHeap (h'.push (seqObj "list" its.toArray 0)) h'.objs.size its) (ps.map Prod.snd)).keyOf v = some (PySem.W.keyToks b.2)) its ps :=
    each_mono e1 fun v b hb ⟨_, as, ra⟩ => PySem.W.dataKind_some hAll (List.mem_map.mpr ⟨b, hb, rfl⟩) ra
  have out := PySem.W.sortVals_each (κ := PySem.W.dataKind (PySem.W.sortingHeap (h'.push (seqObj "list" its.toArray 0)) h'.objs.size its) (ps.map Prod.snd)) (rev := false) (fun b : V × PyData => PySem.W.keyToks b.2) e0 kk
  have hle : PySem.W.sortLe (listOrd itemOrd) false (fun b : V × PyData => PySem.W.keyToks b.2) = leP := rfl
  have out' : Vals ((ps.mergeSort leP).map Prod.fst) (PySem.W.sortVals (PySem.W.dataKind (PySem.W.sortingHeap (h'.push (seqObj "list" its.toArray 0)) h'.objs.size its) (ps.map Prod.snd)) false its its) := each_vals out
  have hlen : ((ps.mergeSort leP).map Prod.fst).length ≤ sizeLine := by
    rw [List.length_map, (List.mergeSort_perm _ _).length_eq]
    have := rv.length
    rw [List.length_map] at this
    omega
  have hle2 : s1.heap.objs.size ≤ h'.objs.size := by
    exact Nat.le_of_lt (Heap.lt_size (hk _ _ (show (s1.heap.push { cls := .type "dict_values", data := .fields #[.ref a] }).get? s1.heap.objs.size = some { cls := .type "dict_values", data := .fields #[.ref a] } from Heap.get?_push_size _ rfl)))
  exact ⟨.ref _, upd H1 h'.objs.size (.lst ((ps.mergeSort leP).map Prod.fst)), I1.laid (t' := tk) (fun b o e => sortedHeap_old (old b o e).1 (Heap.lt_size (old b o e).2) |>.trans (old b o e).2) hle2 ⟨hlen, _, en, out', he'⟩, rfl, q _ (I1.hok.fresh hle2)⟩
end
end Pf
namespace Pf
open PySem PySem.Spec PyProof.Rows L2
/-! ## dicts whose keys are tuples -/
def valT (l : List (List Key × D)) (k : List Key) : Option D := (l.find? fun kv => decide (kv.1 = k)).map (·.2)
def putT (l : List (List Key × D)) (k : List Key) (v : D) : List (List Key × D) :=
  if (l.any fun kv => decide (kv.1 = k)) = true then l.map (fun kv => if kv.1 = k then (kv.1, v) else kv) else l ++ [(k, v)]
section
variable {K : PySem.W.Frag} {f : Addr} {Z : Hp}
theorem TReps.length : ∀ {v : List (List Key × V)} {d : List (List Key × D)}, TReps K f Z v d → v.length = d.length
  | _, _, .nil => rfl
  | _, _, .cons _ s => by simp [s.length]
theorem TReps.app : ∀ {v v' : List (List Key × V)} {d d' : List (List Key × D)}, TReps K f Z v d → TReps K f Z v' d' → TReps K f Z (v ++ v') (d ++ d')
  | _, _, _, _, .nil, s => s
  | _, _, _, _, .cons r t, s => .cons r (t.app s)
theorem TReps.hit : ∀ {v : List (List Key × V)} {d : List (List Key × D)} {k : List Key} {z : D}, TReps K f Z v d → valT d k = some z → ∃ y, valV v k = some y ∧ Rep K f Z y z
  | _, _, k, z, .nil, e => by cases e
  | _, _, k, z, .cons (k := k0) (v := y0) (d := d0) (r := r) (s := s) q t, e => by
    by_cases h : k0 = k
    · have e1 : valT ((k0, d0) :: s) k = some d0 := by simp [valT, h]
      rw [e1] at e
      cases e
      exact ⟨y0, valV_pos (p := (k0, y0)) h, q⟩
    · have e1 : valT ((k0, d0) :: s) k = valT s k := by simp [valT, h]
      rw [e1] at e
      obtain ⟨y, h1, h2⟩ := TReps.hit (k := k) (z := z) t e
      exact ⟨y, by rw [valV_neg (p := (k0, y0)) h]; exact h1, h2⟩
theorem TReps.miss : ∀ {v : List (List Key × V)} {d : List (List Key × D)} {k : List Key}, TReps K f Z v d → valT d k = none → valV v k = none
  | _, _, k, .nil, e => rfl
  | _, _, k, .cons (k := k0) (v := y0) (d := d0) (r := r) (s := s) q t, e => by
    by_cases h : k0 = k
    · have e1 : valT ((k0, d0) :: s) k = some d0 := by simp [valT, h]
      rw [e1] at e
      cases e
    · have e1 : valT ((k0, d0) :: s) k = valT s k := by simp [valT, h]
      rw [e1] at e
      rw [valV_neg (p := (k0, y0)) h]
      exact TReps.miss t e
theorem TReps.any : ∀ {v : List (List Key × V)} {d : List (List Key × D)} (k : List Key), TReps K f Z v d → (v.any fun kv => decide (kv.1 = k)) = d.any fun kv => decide (kv.1 = k)
  | _, _, _, .nil => rfl
  | _, _, k, .cons (r := r) (s := s) q t => by rw [List.any_cons, List.any_cons, TReps.any k t]
theorem TReps.over {y : V} {x : D} {k : List Key} (h : Rep K f Z y x) : ∀ {v : List (List Key × V)} {d : List (List Key × D)}, TReps K f Z v d → TReps K f Z (v.map fun kv => if kv.1 = k then (kv.1, y) else kv) (d.map fun kv => if kv.1 = k then (kv.1, x) else kv)
  | _, _, .nil => .nil
  | _, _, .cons (k := k0) (v := y0) (d := d0) q t => by
    rw [List.map_cons, List.map_cons]
    by_cases e : k0 = k
    · rw [if_pos e, if_pos e]; exact .cons h (TReps.over h t)
    · rw [if_neg e, if_neg e]; exact .cons q (TReps.over h t)
theorem TReps.put {v : List (List Key × V)} {d : List (List Key × D)} {k : List Key} {y : V} {x : D} (r : TReps K f Z v d) (h : Rep K f Z y x) : TReps K f Z (putK v k y) (putT d k x) := by
  unfold putK putT
  rw [r.any k]
  split
  · exact r.over h
  · exact r.app (.cons h .nil)
theorem TReps.vals : ∀ {v : List (List Key × V)} {d : List (List Key × D)}, TReps K f Z v d → Reps K f Z (v.map (·.2)) (d.map (·.2))
  | _, _, .nil => .nil
  | _, _, .cons r s => .cons r s.vals
end
def eDctT0 : SX := fun _ φ => .ok (.dt []) φ
noncomputable def eSortV (A : SX) : SX := fun ρ φ => (A ρ φ).bind fun d φ1 => match d with
  | .dt l => ofO (gSorted [.lst (l.map (·.2))]) φ1
  | _ => .bad
def keyL (ns : List Int) : List Key := ns.map Sum.inl
theorem keyL_kV (ns : List Int) : (keyL ns).map kV = ns.map V.int := by
  unfold keyL
  rw [List.map_map]
  rfl
theorem sorted_coreV {c : Ct} {Z H : Hp} {φ : Fd} {vs : List V} {ds : List D} {Q : VK} {W : WX} {σ : L2.St} (w : Wf c.K c.f Z H φ) (rs : Reps c.K c.f Z vs ds) (ok : okSort ds) (h : Post c .o W (.ok (.lst (sortD ds)) φ) σ Z H Q) : ∃ (ps : List (V × PyData)), vs = ps.map Prod.fst ∧ (∀ p ∈ ps, Dp c.K H p.1 p.2) ∧ (∀ p ∈ ps, ∀ q ∈ ps, PySem.W.alike p.2 q.2 = true) ∧ (∀ p ∈ ps, SeqAt.shaped p.2 = true) ∧
  PySem.W.Sortable (ps.map Prod.snd) ∧ ∀ (p : Addr), H p = none → Q (.ref p) (upd H p (.lst ((ps.mergeSort leP).map Prod.fst))) := by
  obtain ⟨h1, h2, h3⟩ := reps_zip rs
  obtain ⟨o1, o2, o3⟩ := ok
  have mem : ∀ p ∈ vs.zip ds, p.2 ∈ ds := fun p hp => by rw [← h2]; exact List.mem_map.mpr ⟨p, hp, rfl⟩
  refine ⟨(vs.zip ds).map fun p => (p.1, p.2.py), ?_, ?_, ?_, ?_, ?_, ?_⟩
  · rw [List.map_map]
    exact h1.symm
  · intro p hp
    obtain ⟨q, hq, rfl⟩ := List.mem_map.mp hp
    exact Dp.mono w.sub (Rep.dp (h3 q hq) (SeqAt.canLay_of_shaped (o2 _ (mem q hq))))
  · intro p hp p' hp'
    obtain ⟨q, hq, rfl⟩ := List.mem_map.mp hp
    obtain ⟨q', hq', rfl⟩ := List.mem_map.mp hp'
    exact o1 _ (mem q hq) _ (mem q' hq')
  · intro p hp
    obtain ⟨q, hq, rfl⟩ := List.mem_map.mp hp
    exact o2 _ (mem q hq)
  · rcases o3 with o3 | o3
    · refine .inl fun d hd => ?_
      obtain ⟨p, hp, rfl⟩ := List.mem_map.mp hd
      obtain ⟨q, hq, rfl⟩ := List.mem_map.mp hp
      obtain ⟨x, r, e⟩ := o3 _ (mem q hq)
      refine ⟨x.py, D.pys r, ?_⟩
      show q.2.py = _
      rw [e]
      rfl
    · refine .inr fun d hd => ?_
      obtain ⟨p, hp, rfl⟩ := List.mem_map.mp hd
      obtain ⟨q, hq, rfl⟩ := List.mem_map.mp hp
      obtain ⟨n1, n2⟩ := o3 _ (mem q hq)
      refine ⟨fun e => n1 ?_, fun xs e => ?_⟩
      · cases hh : q.2 <;> rw [hh] at e <;> first | rfl | (cases e; done)
      · cases hh : q.2 <;> rw [hh] at e <;> first | exact n2 _ hh | (cases e; done)
  · have e : ((vs.zip ds).map fun p => (p.1, p.2.py)).mergeSort leP = ((vs.zip ds).mergeSort fun p q => leD p.2 q.2).map fun p => (p.1, p.2.py) :=
      (List.map_mergeSort (f := fun p : V × D => (p.1, p.2.py)) (r := fun p q => leD p.2 q.2) (s := leP) fun a _ b _ => rfl).symm
    rw [e, List.map_map]
    have e2 : ((vs.zip ds).mergeSort fun p q => leD p.2 q.2).map Prod.snd = sortD ds := by
      have := List.map_mergeSort (f := Prod.snd) (r := fun p q : V × D => leD p.2 q.2) (s := leD) (l := vs.zip ds) fun a _ b _ => rfl
      rw [this, h2]
      rfl
    have rs' : Reps c.K c.f Z (((vs.zip ds).mergeSort fun p q => leD p.2 q.2).map Prod.fst) (sortD ds) := by
      rw [← e2]
      exact reps_of_zip fun p hp => h3 p ((List.mergeSort_perm _ _).mem_iff.mp hp)
    exact h.newO w (.lst rs')
section
variable {X : Cx} {c : Ct} {own on o1 : List Ms} {m : Md} {W : WX} {w : Ow} {pos p apos mpos : Pos} {a : Expr} {A : SX}
theorem x_dctT0 : EX X c own .o W (.Dict [] [] pos) eDctT0 := by
  refine PE.weak pe_dnewT ?_
  rintro σ H Q ⟨Z, ρ, φ, R, h⟩
  exact Post.newO R.wf (.dt .nil) h
theorem x_sortV (hK : X.K = c.K) (hc : X.calm = true) (hu : X.A.units + 66 < cLine) (hm : X.mg "sorted" = none) (ha : EX X c own .p W a A) (hg : Gl X "sorted" := by rfl) (hbase : attributeBase a "values" X.env (eval a X.env) = eval a X.env := by rfl) (hline : (apos.endLine == mpos.line) = true := by rfl)
    (hse : starEach [Expr.Call (.Attribute a "values" apos) [] [] mpos] X.env = [(false, eval (Expr.Call (.Attribute a "values" apos) [] [] mpos) X.env)] := by rfl) :
    EX X c own .o W (.Call (.Name "sorted" p) [.Call (.Attribute a "values" apos) [] [] mpos] [] pos) (eSortV A) := by
  refine PE.weak (pe_sortVals hc hu hg hm ha hbase hline hse) ?_
  rintro σ H Q ⟨Z, ρ, φ, R, h⟩
  refine ⟨Z, ρ, φ, R, Post.bindE h fun d φ1 x Z1 H1 e1 w1 r1 h1 => ?_⟩
  cases d with
  | dt l =>
    obtain ⟨b, kvs, rfl, hb, rk⟩ := (show Res .p c.K c.f H1 Z1 H1 x (.dt l) from r1).dt w1
    obtain ⟨z, hz, h3⟩ := ofO_ok (E := fun o => Post c .o W o σ Z1 H1 Q) h1 fun z => z
    have hg' : (if okSort (l.map (·.2)) then some (D.lst (sortD (l.map (·.2)))) else none) = some z := hz
    obtain ⟨ok, rfl⟩ := ifs hg'
    rw [hK]
    obtain ⟨ps, q⟩ := sorted_coreV w1 rk.vals ok h3
    exact ⟨b, kvs, ps, rfl, hb, q⟩
  | _ => exact h1.elim
end
end Pf

set_option Elab.async false
set_option linter.all false
set_option maxRecDepth 100000
set_option maxHeartbeats 4000000
namespace Pf
open PySem PySem.Spec PyProof.Rows L2

/-! ## k = tuple(e); d[k] = d.get(k, []) + [x] -/
section
variable {c : Ct}
theorem new_cell {o : HO} {d : D} {φ : Fd} {Z H : Hp} (w : Wf c.K c.f Z H φ) (rc : RepC c.K c.f Z o d) {p : Addr} (hp : H p = none) : Ext c.f Z H Z (upd H p o) ∧ Wf c.K c.f Z (upd H p o) φ ∧ Res .o c.K c.f H Z (upd H p o) (.ref p) d := by
  have hz : Z p = none := by
    cases e : Z p with
    | none => rfl
    | some u => rw [w.sub p u e] at hp; cases hp
  have hf : p ≠ c.f := fun e => w.hf (e ▸ hp)
  have up : ∀ b u, H b = some u → upd H p o b = some u := fun b u q => by rw [upd_ne (ne_of_none q hp)]; exact q
  have e : Ext c.f Z H Z (upd H p o) := ⟨fun _ _ q => q, fun b u _ q => up b u q, fun b hb => by
    cases e : H b with
    | none => exact absurd e hb
    | some u => rw [up b u e]; simp, fun _ _ q => q, .same (upd_ne (Ne.symm hf))⟩
  refine ⟨e, ⟨fun b u q => up b u (w.sub b u q), w.zf, ?_, w.ok⟩, ?_⟩
  · obtain ⟨s, h1, h2⟩ := w.feed
    exact ⟨s, h1, up _ _ h2⟩
  · have hm : d.mt = true := by cases rc <;> rfl
    unfold Res
    rw [if_pos hm]
    exact ⟨p, o, rfl, hp, hz, hf, upd_same, rc⟩
theorem new_tup {vs : List V} {ds : List D} {φ : Fd} {Z H : Hp} (w : Wf c.K c.f Z H φ) (rc : Reps c.K c.f Z vs ds) {p : Addr} (hp : H p = none) : Ext c.f Z H (upd Z p (.tup vs)) (upd H p (.tup vs)) ∧ Wf c.K c.f (upd Z p (.tup vs)) (upd H p (.tup vs)) φ ∧ Rep c.K c.f (upd Z p (.tup vs)) (.ref p) (.tup ds) := by
  have hz : Z p = none := by
    cases e : Z p with
    | none => rfl
    | some u => rw [w.sub p u e] at hp; cases hp
  have hf : p ≠ c.f := fun e => w.hf (e ▸ hp)
  have up : ∀ b u, H b = some u → upd H p (.tup vs) b = some u := fun b u q => by rw [upd_ne (ne_of_none q hp)]; exact q
  have upz : ∀ b u, Z b = some u → upd Z p (.tup vs) b = some u := fun b u q => by rw [upd_ne (ne_of_none q hz)]; exact q
  have e : Ext c.f Z H (upd Z p (.tup vs)) (upd H p (.tup vs)) := ⟨upz, fun b u _ q => up b u q, fun b hb => by
    cases e : H b with
    | none => exact absurd e hb
    | some u => rw [up b u e]; simp, fun b hb q => by rw [upd_ne (fun z => hb (by rw [z]; exact hp))]; exact q, .same (upd_ne (Ne.symm hf))⟩
  refine ⟨e, ⟨fun b u q => ?_, ?_, ?_, w.ok⟩, .tup (SqT.of upd_same) (rc.mono upz)⟩
  · by_cases hb : b = p
    · subst hb; rw [upd_same] at q; cases q; exact upd_same
    · rw [upd_ne hb] at q; exact up b u (w.sub b u q)
  · rw [upd_ne (Ne.symm hf)]; exact w.zf
  · obtain ⟨s, h1, h2⟩ := w.feed
    exact ⟨s, h1.mono upz, up _ _ h2⟩
theorem Rl.cellT {own : List Ms} {Z H : Hp} {ρ : En} {φ : Fd} {σ : L2.St} (R0 : Rl c own Z ρ φ σ H) {i : Nat} {ds : List (List Key × D)} (ho : own[i]? = some .o) (hd : ρ[i]? = some (some (.dt ds))) : ∃ a vs, σ[i]? = some (some (.ref a)) ∧ H a = some (.dT vs) ∧ TReps c.K c.f Z vs ds ∧ Z a = none ∧ a ≠ c.f := by
  obtain ⟨u, hu, ru⟩ := R0.ow i _ hd ho
  unfold Res at ru
  rw [if_pos (by rfl)] at ru
  obtain ⟨a, o, rfl, _, hz, hf, ha, rc⟩ := ru
  cases rc with
  | dt q => exact ⟨a, _, hu, ha, q, hz, hf⟩
end
def sTally (i j : Nat) (A B : SX) : SS := fun ρ φ => (A ρ φ).toR ρ fun l φ1 => match l with
  | .lst ks => (match intsOf ks with
    | some ns => (match ρ[i]? with
      | some (some (.dt d)) => if ρ.length ≤ j then .bad else (B (ρ.set j (some (.tup ks))) φ1).toR (ρ.set j (some (.tup ks))) fun r φ2 => (match (valT d (keyL ns)).getD (.lst []) with
        | .lst os => if os.length < sizeLine ∧ d.length < sizeLine then .nx ((ρ.set j (some (.tup ks))).set i (some (.dt (putT d (keyL ns) (.lst (os ++ [r])))))) φ2 else .bad
        | _ => .bad)
      | _ => .bad)
    | none => .bad)
  | _ => .bad
section
variable {X : Cx} {c : Ct} {w : Ow} {own on : List Ms}
theorem s_tally (i j : Nat) {x y : Str} {e eb : Expr} {A B : SX} {Bk : SS} {rest : List Stmt} {py p cp pos p1 p2 p3 p4 p5 p6 p7 p8 apos cpos pos2 : Pos} (hK : X.K = c.K) (hu : X.A.units + 64 < cLine) (hNd : X.N.Nodup) (hmt : X.mg "tuple" = none)
    (ha : EX X c own .p w.W e A) (hb : EX X c (own.set j .s) .s w.W eb B) (hr : SJs X c w (own.set j .s) on rest Bk) (hij : j ≠ i := by decide) (hw : own[i]? = some .o := by rfl)
    (hN : X.N[i]? = some x := by rfl) (hv : Vis X.env.scope x := by first | exact Or.inl rfl | exact Or.inr (Or.inl rfl) | exact Or.inr (Or.inr rfl))
    (hd : (x == ("__debug__" : Str)) = false := by decide) (hcd : (x == ("__classdict__" : Str)) = false := by decide)
    (hN' : X.N[j]? = some y := by rfl) (hv' : Vis X.env.scope y := by first | exact Or.inl rfl | exact Or.inr (Or.inl rfl) | exact Or.inr (Or.inr rfl))
    (hd' : (y == ("__debug__" : Str)) = false := by decide) (hcd' : (y == ("__classdict__" : Str)) = false := by decide)
    (hx : Loc X.env.scope y := by first | exact Or.inl rfl | exact Or.inr rfl) (hf : X.fn y = true ∨ X.env.scope.names.lookup y = some .local := by first | exact .inl rfl | exact .inr rfl)
    (hg : Gl X "tuple" := by rfl) (he : starEach [e] X.env = (false, eval e X.env) :: starEach [] X.env := by rfl) (hpl : (backTo cp (starEach [] X.env)).any (·.1) = false := by rfl)
    (he2 : starEach [eb] X.env = (false, eval eb X.env) :: starEach [] X.env := by rfl)
    (hs1 : swapsWith (.Call (.Name "tuple" p) [e] [] cp) (some (.Name y py)) pos.line X.env = pure false := by rfl)
    (hm : M2 X (.Name x p4) "get" apos (.Name y p5) (.List [] p6) cpos := by exact ⟨rfl, rfl, rfl, rfl⟩)
    (hst : ∀ v, assign (.Subscript (.Name x p1) (.Name y p2) p3) X.env v = (do
      let ov ← holding [v] (eval (.Name x p1) X.env)
      let iv ← holding [v, ov] (eval (.Name y p2) X.env)
      standAt p3
      holding [v, ov, iv] (setItem ov iv v)
      release [v, ov, iv] []) := by intro _; rfl)
    (hs : swapsWithSole [.Subscript (.Name x p1) (.Name y p2) p3] (.BinOp (.Call (.Attribute (.Name x p4) "get" apos) [.Name y p5, .List [] p6] [] cpos) .Add (.List [eb] p7) p8) pos2.line X.env = pure false := by rfl)
    (hsw : swappedStores [.Subscript (.Name x p1) (.Name y p2) p3] (.BinOp (.Call (.Attribute (.Name x p4) "get" apos) [.Name y p5, .List [] p6] [] cpos) .Add (.List [eb] p7) p8) X.env = pure none := by rfl)
    (h1 : (assignEach [.Subscript (.Name x p1) (.Name y p2) p3] X.env).map (·.2) = [assign (.Subscript (.Name x p1) (.Name y p2) p3) X.env] := by rfl) (ho : w.ox own := by first | exact trivial | rfl) (ho2 : w.ox (own.set j .s) := by first | exact trivial | rfl) :
    SJs X c w own on (.Assign [.Name y py] (.Call (.Name "tuple" p) [e] [] cp) pos :: .Assign [.Subscript (.Name x p1) (.Name y p2) p3] (.BinOp (.Call (.Attribute (.Name x p4) "get" apos) [.Name y p5, .List [] p6] [] cpos) .Add (.List [eb] p7) p8) pos2 :: rest) (sSeq (sTally i j A B) Bk) := by
  refine PSs.weak (pss_cons (ps_set hNd hN' hx (pe_callTy call_tuple_of hg hmt (by decide +kernel) (pa_cons ha pa_nil he) (by decide) (by decide) he hpl) hs1 hf)
    (pss_cons (ps_asg (pe_op op_addD (pe_dget2 (by omega) (pe_var hN hv hd hcd) (pe_var hN' hv' hd' hcd') (pe_lst pa_nil) hm) (pe_lst (pa_cons hb pa_nil he2))) (pg_sub (pe_var hN hv hd hcd) (pe_var hN' hv' hd' hcd') (set_dict (by omega)) hst) hs hsw h1) hr)) ?_
  rintro Dn σ H ⟨Z, ρ, φ, R0, h⟩
  unfold sSeq sTally at h
  refine ⟨Z, ρ, φ, R0, ?_⟩
  cases hA : A ρ φ with
  | bad => rw [hA] at h; exact h.elim
  | ex y l φ1 => rw [hA] at h; exact fun cls dx Z' H' e' w' r => h cls dx σ Z' H' own ho (R0.more e' w') r
  | ok l φ1 =>
    rw [hA] at h
    intro v1 Z1 H1 e1 w1 r1
    cases l with
    | lst ks =>
      cases hk : intsOf ks with
      | none => simp only [O.toR, hk] at h; exact h.elim
      | some ns =>
        cases hd0 : ρ[i]? with
        | none => simp only [O.toR, hk, hd0] at h; exact h.elim
        | some od =>
          cases od with
          | none => simp only [O.toR, hk, hd0] at h; exact h.elim
          | some dd =>
            cases dd with
            | dt d =>
              have hjl : j < ρ.length := by
                by_cases hj : ρ.length ≤ j
                · simp only [O.toR, hk, hd0, if_pos hj] at h; exact h.elim
                · omega
              have h' : PostS c w on (((B (ρ.set j (some (.tup ks))) φ1).toR (ρ.set j (some (.tup ks))) fun r φ2 => (match (valT d (keyL ns)).getD (.lst []) with
                | .lst os => if os.length < sizeLine ∧ d.length < sizeLine then .nx ((ρ.set j (some (.tup ks))).set i (some (.dt (putT d (keyL ns) (.lst (os ++ [r])))))) φ2 else .bad
                | _ => .bad)).seq Bk) Dn Z := by
                simp only [O.toR, hk, hd0, if_neg (show ¬ ρ.length ≤ j by omega)] at h
                exact h
              obtain ⟨p0, vs, rfl, hp0, rs⟩ := (show Res .p c.K c.f H1 Z1 H1 v1 (.lst ks) from r1).lst w1
              refine ⟨p0, vs, rfl, .inl ⟨SqL.of hp0, fun t ht => ?_⟩⟩
              obtain ⟨e2, w2, r2⟩ := new_tup (c := c) w1 rs ht
              have R2 := ((R0.more e1 w1).more e2 w2).setS (i := j) r2
              have hdj : (ρ.set j (some (D.tup ks)))[i]? = some (some (.dt d)) := by rw [List.getElem?_set_ne hij]; exact hd0
              have hwj : (own.set j .s)[i]? = some .o := by rw [List.getElem?_set_ne hij]; exact hw
              have hvs : vs = (keyL ns).map kV := by
                rw [keyL_kV]
                have := intsOf_inv hk
                subst this
                exact Reps.ints_inv rs
              obtain ⟨a, kvs, hia, hHa, rk, hza, haf⟩ := R2.cellT hwj hdj
              have hjt : (σ.set j (some (V.ref t)))[j]? = some (some (.ref t)) := List.getElem?_set_self (by rw [R0.len]; exact hjl)
              have ztt : (upd Z1 t (.tup vs)) t = some (.tup ((keyL ns).map kV)) := by rw [upd_same, hvs]
              refine ⟨.ref a, hia, a, rfl, .inr ⟨kvs, Rd.of hHa⟩, .ref t, hjt, (by decide : (0 : Nat) ≤ sizeLine), fun p hp => ?_⟩
              obtain ⟨e3, w3, r3⟩ := new_cell (c := c) w2 (.lst .nil) hp
              have R3 := R2.more e3 w3
              have hH3 : upd (upd H1 t (.tup vs)) p (.lst []) a = some (.dT kvs) := e3.h a _ haf hHa
              have hT3 : upd (upd H1 t (.tup vs)) p (.lst []) t = some (.tup ((keyL ns).map kV)) := w3.sub _ _ ztt
              refine ⟨valV kvs (keyL ns), DGet.t hH3 hT3, upd Z1 t (.tup vs), _, φ1, R3, ?_⟩
              have old : Res .p c.K c.f (upd H1 t (.tup vs)) (upd Z1 t (.tup vs)) (upd (upd H1 t (.tup vs)) p (.lst [])) ((valV kvs (keyL ns)).getD (.ref p)) ((valT d (keyL ns)).getD (.lst [])) := by
                cases hv : valT d (keyL ns) with
                | none => rw [rk.miss hv]; exact Res.o2p r3
                | some z =>
                  obtain ⟨y, e4, r4⟩ := rk.hit hv
                  rw [e4]
                  exact .inl r4
              cases hB : B (ρ.set j (some (.tup ks))) φ1 with
              | bad => rw [hB] at h'; exact h'.elim
              | ex y l φ2 =>
                rw [hB] at h'
                exact fun cls dx Z' H' e' w' r => h' cls dx _ Z' H' _ ho2 (R3.more e' w') r
              | ok r φ2 =>
                rw [hB] at h'
                intro v4 Z4 H4 e4 w4 r4
                refine ⟨(by decide : (1 : Nat) ≤ sizeLine), fun q hq => ?_⟩
                have r4' : Rep c.K c.f Z4 v4 r := r4
                obtain ⟨e5, w5, r5⟩ := new_cell (c := c) w4 (.lst (.cons r4' .nil)) hq
                cases hos : (valT d (keyL ns)).getD (.lst []) with
                | lst os =>
                  rw [hos] at old
                  have h2 : PostS c w on ((if os.length < sizeLine ∧ d.length < sizeLine then R.nx ((ρ.set j (some (.tup ks))).set i (some (.dt (putT d (keyL ns) (.lst (os ++ [r])))))) φ2 else .bad).seq Bk) Dn Z := by
                    simp only [O.toR, hos] at h'
                    exact h'
                  by_cases hsz : os.length < sizeLine ∧ d.length < sizeLine
                  · rw [if_pos hsz] at h2
                    rw [hK]
                    refine gAdd_ok (c := c) Z4 _ φ2 _ _ (.lst os) (.lst [r]) (.lst (os ++ [r])) w.W σ _ w5 ((old.pmono e4).pmono e5) (show Res .p c.K c.f H4 Z4 (upd H4 q (.lst [v4])) (.ref q) (.lst [r]) from Res.o2p r5) (by
                      show (if os.length + [r].length ≤ sizeLine then some (D.lst (os ++ [r])) else none) = _
                      rw [if_pos (by rw [List.length_singleton]; omega)]) ?_
                    intro v6 Z6 H6 e6 w6 r6
                    unfold Res at r6
                    rw [if_pos (by rfl)] at r6
                    obtain ⟨a6, o6, rfl, h0, hz6, hf6, ha6, rc6⟩ := r6
                    obtain ⟨e7, w7, r7⟩ := freeze e6 w6 h0 hz6 hf6 ha6 rc6
                    have R7 := ((R3.more e4 w4).more e5 w5).more e7 w7
                    obtain ⟨a', kvs', hia', hH7, rk7, hz7, _⟩ := R7.cellT hwj hdj
                    rw [hia] at hia'
                    cases hia'
                    have zt7 := e7.z _ _ (e5.z _ _ (e4.z _ _ (e3.z _ _ ztt)))
                    refine ⟨.ref a, hia, .ref t, hjt, a, _, rfl, DPut.t hH7 (w7.sub _ _ zt7) (by rw [rk7.length]; exact hsz.2), ?_⟩
                    exact ⟨_, _, φ2, R7.write hwj hdj rfl hia (.dt (rk7.put r7)), PostS.shift h2 fun b u q => e7.z _ _ (e5.z _ _ (e4.z _ _ (e3.z _ _ (e2.z _ _ (e1.z _ _ q)))))⟩
                  · rw [if_neg hsz] at h2; exact h2.elim
                | _ => simp only [O.toR, hos] at h'; exact h'.elim
            | _ => simp only [O.toR, hk, hd0] at h; exact h.elim
    | _ => simp only [O.toR] at h; exact h.elim
end
end Pf

set_option Elab.async false
set_option linter.all false
set_option maxRecDepth 100000
set_option maxHeartbeats 4000000
namespace Pf
open PySem PySem.Spec PyProof.Rows L2

/-! ## what a def tells that was handed a list of ints is new, all of it -/
mutual
theorem Rep.refeed {K : PySem.W.Frag} {f g : Addr} {Z : Hp} : ∀ {v : V} {d : D}, Rep K f Z v d → d.py.canLay0 = true → Rep K g Z v d
  | _, _, .non, _ => .non
  | _, _, .bl b, _ => .bl b
  | _, _, .int b, _ => .int b
  | _, _, .str b, _ => .str b
  | _, _, .cel e q, hc => .cel e (RepC.refeed q hc)
  | _, _, .tup e q, hc => .tup e (Reps.refeed q hc)
  | _, _, .feed, hc => (Bool.false_ne_true hc).elim
  | _, _, .fnv _, hc => (Bool.false_ne_true hc).elim
theorem RepC.refeed {K : PySem.W.Frag} {f g : Addr} {Z : Hp} : ∀ {o : HO} {d : D}, RepC K f Z o d → d.py.canLay0 = true → RepC K g Z o d
  | _, _, .lst q, hc => .lst (Reps.refeed q hc)
  | _, _, .dk _, hc => (Bool.false_ne_true hc).elim
  | _, _, .dt _, hc => (Bool.false_ne_true hc).elim
theorem Reps.refeed {K : PySem.W.Frag} {f g : Addr} {Z : Hp} : ∀ {vs : List V} {ds : List D}, Reps K f Z vs ds → PyData.canLayAll0 (D.pys ds) = true → Reps K g Z vs ds
  | _, _, .nil, _ => .nil
  | _, _, .cons r s, hc => by
    have hc' := (Bool.and_eq_true_iff.mp hc)
    exact .cons (Rep.refeed r hc'.1) (Reps.refeed s hc'.2)
end
structure RA (c : Ct) (own : List Ms) (i : Nat) (Z T : Hp) (ρ : En) (φ : Fd) (σ : L2.St) (H : Hp) (d : D) (v : V) : Prop where
  D0 : RD c own i 0 Z T ρ φ σ H d v
  rp : Rep c.K c.f T v d
/-- statements while the data of i lies apart, all of it; or nothing is told of i -/
def tAp (c : Ct) (w : Ow) (own on : List Ms) (i : Nat) (B : SS) : TS := fun Dn σ H => ∃ Z ρ φ, (∃ T d v, RA c own i Z T ρ φ σ H d v ∧ PostS c w on (B (ρ.set i (some d)) φ) Dn Z) ∨ (Rl c own Z ρ φ σ H ∧ ρ[i]? = some none ∧ PostS c w on (B ρ φ) Dn Z)
abbrev JTs (X : Cx) (c : Ct) (w : Ow) (own on : List Ms) (i : Nat) (sts : List Stmt) (B : SS) : Prop := PSs X sts (tAp c w own on i B)
def nofeed (φ : Fd) : Fd := { φ with told := -1 }
/-- x = g(y), y a list of ints of our own: all that x holds is new -/
def sFresh (i y : Nat) (F : Fn) (B : SS) : SS := fun ρ φ => match ρ[y]? with
  | some (some (.lst l)) => if i < ρ.length ∧ i ≠ y ∧ (intsOf l).isSome = true then (match F [.lst l] (nofeed φ) with
      | .ok z _ => if z.shp = true ∧ z.mt = false then B (ρ.set i (some z)) φ else .bad
      | _ => .bad) else .bad
  | _ => .bad
section
variable {X : Cx} {c : Ct} {w : Ow} {own o1 on : List Ms} {pos : Pos}
theorem RA.enter {Z H T H' : Hp} {ρ : En} {φ φ' : Fd} {σ : L2.St} {g : Addr} {i : Nat} {v : V} {d : D} (R : Rl c own Z ρ φ σ H) (hi : i < ρ.length) (hg : ∃ o, H g = some o ∧ ∀ a l, o ≠ .lst (.ref a :: l)) (e : Ext g (fun _ => none) H T H') (w' : Wf c.K g T H' φ') (r : Rep c.K g T v d) (hc : d.py.canLay0 = true) :
    RA c own i Z T (ρ.set i none) φ (σ.set i (some v)) H' d v := by
  have same : ∀ a o, H a = some o → H' a = some o := fun a o h => by
    by_cases ha : a = g
    · subst ha
      obtain ⟨o2, h2, hn⟩ := hg
      obtain ⟨o', h3, hr⟩ := e.d _ h2
      rw [h2] at h
      cases h
      rcases hr with rfl | ⟨x, vs, us, h4, _⟩
      · exact h3
      · exact absurd h4 (hn _ _)
    · exact e.h a o ha h
  have new : ∀ a, T a ≠ none → H a = none := fun a ha => Classical.byContradiction fun q => ha (e.n a q rfl)
  have e2 : Ext c.f Z H Z H' := ⟨fun _ _ q => q, fun a o _ q => same a o q, e.k, fun _ _ q => q, by
    intro o q
    exact ⟨o, same _ _ q, .inl rfl⟩⟩
  have w2 : Wf c.K c.f Z H' φ := ⟨fun a o q => same a o (R.wf.sub a o q), R.wf.zf, by
    obtain ⟨s, h1, h2⟩ := R.wf.feed
    exact ⟨s, h1, same _ _ h2⟩, R.wf.ok⟩
  have r' : Rep c.K c.f T v d := r.refeed hc
  have zn : ∀ a, T a ≠ none → Z a = none := fun a ha => Classical.byContradiction fun q => by
    obtain ⟨o, ho⟩ := Option.ne_none_iff_exists'.mp q
    have := new a ha
    rw [R.wf.sub a o ho] at this
    cases this
  refine ⟨⟨(R.more e2 w2).hide i (some v), List.getElem?_set_self hi, List.getElem?_set_self (by rw [R.len]; exact hi), fun a ha => ⟨zn a ha, ?_, ?_, ?_⟩, r'.mono fun a o q => ?_, trivial, fun j a e' h1 h2 h3 h4 => ?_⟩, r'⟩
  · exact Classical.byContradiction fun q => R.ext.k a q (new a ha)
  · rintro rfl
    exact R.wf.hf (new _ ha)
  · obtain ⟨o, ho⟩ := Option.ne_none_iff_exists'.mp ha
    rw [ho]
    exact w'.sub a o ho
  · rw [jn_r (zn a (by rw [q]; simp))]
    exact q
  · rcases get_set h2 with ⟨_, q⟩ | ⟨hj, q⟩
    · cases q
    · rw [List.getElem?_set_ne (Ne.symm hj)] at h4
      obtain ⟨u, hu, ru⟩ := R.ow j e' q h1
      rw [h4] at hu
      cases hu
      unfold Res at ru
      rw [if_pos h3] at ru
      obtain ⟨b, o, eb, _, _, _, hb, _⟩ := ru
      cases eb
      refine Classical.byContradiction fun q => ?_
      rw [new _ q] at hb
      cases hb
theorem RA.more {Z Z' H T H' : Hp} {ρ : En} {φ φ' : Fd} {σ : L2.St} {i : Nat} {v : V} {d : D} (R : RA c own i Z T ρ φ σ H d v) (e : Ext c.f Z H Z' H') (w : Wf c.K c.f Z' H' φ') : RA c own i Z' T ρ φ' σ H' d v := ⟨R.D0.more e w, R.rp⟩
theorem fake_feed {Z H : Hp} {φ : Fd} (w : Wf c.K c.f Z H φ) : ∃ g, (∃ o, H g = some o ∧ ∀ a l, o ≠ .lst (.ref a :: l)) ∧ (∀ a, Z a = none → a ≠ c.f → a ≠ g) ∧ Wf c.K g (fun _ => none) H (nofeed φ) := by
  obtain ⟨s, h1, h2⟩ := w.feed
  have mk : ∀ g o, H g = some o → (∀ a l, o ≠ .lst (.ref a :: l)) → Wf c.K g (fun _ => none) H (nofeed φ) := fun g o hg hn =>
    ⟨fun _ _ q => (by cases q), rfl, ⟨(g, o), .inl ⟨by show (-1 : Int) < 0; decide, hn⟩, hg⟩, fun q => absurd q (by show ¬ (0 : Int) ≤ -1; decide)⟩
  rcases h1 with ⟨_, hn⟩ | ⟨h3, _⟩
  · exact ⟨c.f, ⟨_, h2, hn⟩, fun a _ q => q, mk _ _ h2 hn⟩
  · have h4 := w.sub _ _ h3
    have hn : ∀ a l, (HO.lst (φ.cells.map V.int)) ≠ .lst (.ref a :: l) := fun a l q => by
      injection q with q
      cases hc : φ.cells with
      | nil => rw [hc] at q; cases q
      | cons x r => rw [hc] at q; injection q with q _; cases q
    exact ⟨s.1, ⟨_, h4, hn⟩, fun a hz _ q => (by rw [q, h3] at hz; cases hz), mk _ _ h4 hn⟩
theorem jt_enter (i y : Nat) {x g yv : Str} {rest : List Stmt} {B : SS} {F : Fn} {m : Md} {k : Nat} {pos' p p2 cpos : Pos} (hK : X.K = c.K) (hNd : X.N.Nodup) (C : Cal X.prog X.w X.K X.mg X.base c.cls g k [true] m F) (hr : Room k X.A) (tk : L2N.Takes X w.W) (hb : JTs X c w own on i rest B) (hw : own[y]? = some .o := by rfl)
    (hN : X.N[y]? = some yv := by rfl) (hv : Vis X.env.scope yv := by first | exact Or.inl rfl | exact Or.inr (Or.inl rfl) | exact Or.inr (Or.inr rfl))
    (hd : (yv == ("__debug__" : Str)) = false := by decide) (hcd : (yv == ("__classdict__" : Str)) = false := by decide)
    (hN' : X.N[i]? = some x := by rfl) (hx : Loc X.env.scope x := by first | exact Or.inl rfl | exact Or.inr rfl) (hf : X.fn x = true ∨ X.env.scope.names.lookup x = some .local := by first | exact .inl rfl | exact .inr rfl)
    (hg : Gl X g := by rfl) (hdb : (g == ("__debug__" : Str)) = false := by decide)
    (he : starEach [Expr.Name yv p2] X.env = (false, eval (.Name yv p2) X.env) :: starEach [] X.env := by rfl) (hpl : (backTo cpos (starEach [] X.env)).any (·.1) = false := by rfl)
    (hs : swapsWith (.Call (.Name g p) [.Name yv p2] [] cpos) (some (.Name x pos')) pos.line X.env = pure false := by rfl) :
    SJs X c w own on (.Assign [.Name x pos'] (.Call (.Name g p) [.Name yv p2] [] cpos) pos :: rest) (sFresh i y F B) := by
  obtain ⟨f, fd, ps, h1, h2, h3, h4⟩ := C.ex
  refine PSs.weak (pss_cons (ps_set hNd hN' hx (pe_callS h4 hr hg h1 h2 h3 (fun σ => L2N.passAt tk σ) (pa_cons (pe_var hN hv hd hcd) pa_nil he) hdb he hpl) hs hf) hb) ?_
  rintro Dn σ H ⟨Z, ρ, φ, R0, h⟩
  unfold sFresh at h
  cases hy : ρ[y]? with
  | none => simp only [hy] at h; exact h.elim
  | some oy =>
    cases oy with
    | none => simp only [hy] at h; exact h.elim
    | some dy =>
      cases dy with
      | lst l =>
        simp only [hy] at h
        by_cases hc : i < ρ.length ∧ i ≠ y ∧ (intsOf l).isSome = true
        · rw [if_pos hc] at h
          obtain ⟨hil, hiy, hin⟩ := hc
          obtain ⟨ns, hns⟩ := Option.isSome_iff_exists.mp hin
          obtain ⟨u, hu, ru⟩ := R0.ow y _ hy hw
          unfold Res at ru
          rw [if_pos (by rfl)] at ru
          obtain ⟨a, o, rfl, _, hz, haf, ha, rc⟩ := ru
          cases rc with
          | lst rs =>
            rename_i vs
            have hl := intsOf_inv hns
            subst hl
            have hvs := Reps.ints_inv rs
            obtain ⟨gf, hg1, hg2, wg⟩ := fake_feed R0.wf
            refine ⟨.ref a, hu, gf, fun _ => none, [.lst (ns.map D.int)], nofeed φ, by rw [hK]; exact wg, by rw [hK]; exact ⟨.inr ⟨a, .lst vs, rfl, rfl, hg2 a hz haf, ha, .lst (by rw [hvs]; exact Reps.ints ns)⟩, trivial⟩, ?_⟩
            rw [hK]
            cases hF : F [.lst (ns.map D.int)] (nofeed φ) with
            | ok z φz =>
              simp only [hF] at h ⊢
              by_cases hz2 : z.shp = true ∧ z.mt = false
              · rw [if_pos hz2] at h
                intro v T H' e' w' r'
                have cl := SeqAt.canLay_of_shaped hz2.1
                have RT0 := RA.enter R0 hil hg1 e' w' (r'.flat hz2.2) cl
                exact ⟨Z, _, φ, .inl ⟨T, z, v, RT0, by rw [List.set_set]; exact h⟩⟩
              · rw [if_neg hz2] at h; exact h.elim
            | ex _ _ _ => simp only [hF] at h; exact h.elim
            | bad => simp only [hF] at h; exact h.elim
        · rw [if_neg hc] at h; exact h.elim
      | _ => simp only [hy] at h; exact h.elim
theorem set_same {ρ : En} {i : Nat} (h : ρ[i]? = some none) : ρ.set i none = ρ := by
  refine List.ext_getElem? fun j => ?_
  by_cases hj : j = i
  · subst hj
    rw [List.getElem?_set_self (List.getElem?_eq_some_iff.mp h).1, h]
  · rw [List.getElem?_set_ne (Ne.symm hj)]
theorem jt_if {i : Nat} {t : Expr} {body rest : List Stmt} {T : SB} {Bb B : SS} (hw : own[i]? = some .s) (ht : BX X c own W0 t T) (hb : SJs X c w own o1 body Bb) (hr : JTs X c w own on i rest B) :
    JTs X c w own on i (.If t body [] pos :: rest) (sSeq (sIfD i T Bb) B) := by
  refine PSs.weak (pss_cons (ps_if ht hb pss_nil) hr) ?_
  rintro Dn σ H ⟨Z, ρ, φ, ⟨T', d, v, RT0, h⟩ | ⟨R0, hn, h⟩⟩
  · have D0 := RT0.D0
    refine ⟨jn Z T', ρ.set i (some d), φ, D0.view hw, ?_⟩
    unfold sSeq sIfD at h
    rw [set_back D0.un] at h
    cases hT : T (ρ.set i (some d)) φ with
    | bad => rw [hT] at h; exact h.elim
    | ex y l φ1 => rw [hT] at h; exact h.elim
    | ok b φ1 =>
      rw [hT] at h
      intro Z1 H1 e1 w1
      obtain ⟨e2, w2⟩ := D0.R.wf.back (fun a o q => jn_l q) e1 w1
      have D1 := RT0.more e2 w2
      cases b with
      | false => exact ⟨Z, ρ, φ1, .inl ⟨T', d, v, D1, h⟩⟩
      | true =>
        refine ⟨Z, ρ, φ1, D1.D0.R, ?_⟩
        cases hB : Bb ρ φ1 with
        | rt z φ2 =>
          simp only [hB] at h
          exact h
        | nx _ _ => simp only [hB] at h; exact h.elim
        | bk _ _ => simp only [hB] at h; exact h.elim
        | ct _ _ => simp only [hB] at h; exact h.elim
        | ex _ _ _ _ => simp only [hB] at h; exact h.elim
        | bad => simp only [hB] at h; exact h.elim
  · refine ⟨Z, ρ, φ, R0, ?_⟩
    unfold sSeq sIfD at h
    rw [set_same hn] at h
    cases hT : T ρ φ with
    | bad => rw [hT] at h; exact h.elim
    | ex y l φ1 => rw [hT] at h; exact h.elim
    | ok b φ1 =>
      rw [hT] at h
      intro Z1 H1 e1 w1
      have R1 := R0.more e1 w1
      cases b with
      | false => exact ⟨Z1, ρ, φ1, .inr ⟨R1, hn, PostS.shift h e1.z⟩⟩
      | true =>
        refine ⟨Z1, ρ, φ1, R1, ?_⟩
        cases hB : Bb ρ φ1 with
        | rt z φ2 =>
          simp only [hB] at h
          exact h
        | nx _ _ => simp only [hB] at h; exact h.elim
        | bk _ _ => simp only [hB] at h; exact h.elim
        | ct _ _ => simp only [hB] at h; exact h.elim
        | ex _ _ _ _ => simp only [hB] at h; exact h.elim
        | bad => simp only [hB] at h; exact h.elim
def isNN : Option (Option D) → Bool
  | some none => true
  | _ => false
theorem isNN_eq {x : Option (Option D)} (h : isNN x = true) : x = some none := by
  cases x with
  | none => cases h
  | some y => cases y with
    | none => rfl
    | some z => cases h
/-- a test whose body forgets i at last -/
def sIfE (i : Nat) (T : SB) (Bb : SS) : SS := fun ρ φ => match T ρ φ with
  | .ok true φ1 => (match Bb ρ φ1 with
    | .nx ρ1 φ2 => if isNN (ρ1[i]?) = true then .nx ρ1 φ2 else .bad
    | .rt d φ2 => .rt d φ2
    | _ => .bad)
  | .ok false φ1 => .nx ρ φ1
  | _ => .bad
theorem ifE_post {Z : Hp} {i : Nat} {Bb B : SS} {ρ : En} {φ1 : Fd} {Dn : Ends} (h : PostS c w on (R.seq (match Bb ρ φ1 with
    | .nx ρ1 φ2 => if isNN (ρ1[i]?) = true then .nx ρ1 φ2 else .bad
    | .rt d φ2 => .rt d φ2
    | _ => .bad) B) Dn Z) : PostS c w own (Bb ρ φ1) { Dn with nx := tAp c w own on i B Dn } Z := by
  cases hB : Bb ρ φ1 with
  | nx ρ1 φ2 =>
    simp only [hB] at h
    by_cases hn : isNN (ρ1[i]?) = true
    · rw [if_pos hn] at h
      exact fun σ Z' H' k R' => ⟨Z', ρ1, φ2, .inr ⟨R', isNN_eq hn, PostS.shift h k⟩⟩
    · rw [if_neg hn] at h; exact h.elim
  | rt z φ2 => simp only [hB] at h; exact h
  | bk _ _ => simp only [hB] at h; exact h.elim
  | ct _ _ => simp only [hB] at h; exact h.elim
  | ex _ _ _ _ => simp only [hB] at h; exact h.elim
  | bad => simp only [hB] at h; exact h.elim
theorem jt_ifP {i : Nat} {t : Expr} {body rest : List Stmt} {T : SB} {Bb B : SS} (hw : own[i]? = some .s) (ht : BX X c own W0 t T) (hb : JTs X c w own own i body Bb) (hr : JTs X c w own on i rest B) :
    JTs X c w own on i (.If t body [] pos :: rest) (sSeq (sIfE i T Bb) B) := by
  refine PSs.weak (pss_cons (ps_if ht hb pss_nil) hr) ?_
  rintro Dn σ H ⟨Z, ρ, φ, ⟨T', d, v, RT0, h⟩ | ⟨R0, hn, h⟩⟩
  · have D0 := RT0.D0
    refine ⟨jn Z T', ρ.set i (some d), φ, D0.view hw, ?_⟩
    unfold sSeq sIfE at h
    cases hT : T (ρ.set i (some d)) φ with
    | bad => rw [hT] at h; exact h.elim
    | ex y l φ1 => rw [hT] at h; exact h.elim
    | ok b φ1 =>
      rw [hT] at h
      intro Z1 H1 e1 w1
      obtain ⟨e2, w2⟩ := D0.R.wf.back (fun a o q => jn_l q) e1 w1
      have D1 := RT0.more e2 w2
      cases b with
      | false => exact ⟨Z, ρ, φ1, .inl ⟨T', d, v, D1, h⟩⟩
      | true => exact ⟨Z, ρ, φ1, .inl ⟨T', d, v, D1, ifE_post h⟩⟩
  · refine ⟨Z, ρ, φ, R0, ?_⟩
    unfold sSeq sIfE at h
    cases hT : T ρ φ with
    | bad => rw [hT] at h; exact h.elim
    | ex y l φ1 => rw [hT] at h; exact h.elim
    | ok b φ1 =>
      rw [hT] at h
      intro Z1 H1 e1 w1
      have R1 := R0.more e1 w1
      cases b with
      | false => exact ⟨Z1, ρ, φ1, .inr ⟨R1, hn, PostS.shift h e1.z⟩⟩
      | true => exact ⟨Z1, ρ, φ1, .inr ⟨R1, hn, PostS.shift (ifE_post h) e1.z⟩⟩
theorem jt_set {i : Nat} (j : Nat) {st : Stmt} {rest : List Stmt} {A : SX} {B : SS} {m : Md} (hst : PS X st (tAsg (tE c own m w.W A) (gName j))) (hij : j ≠ i) (hm : (m = .o ∧ j < own.length ∧ o1 = own.set j .o) ∨ (m = .s ∧ o1 = own.set j .s)) (hr : JTs X c w o1 on i rest B) (ho : w.ox own := by first | exact trivial | rfl) :
    JTs X c w own on i (st :: rest) (sSeq (sHid i (sSet j A)) B) := by
  refine PSs.weak (pss_cons hst hr) ?_
  rintro Dn σ H ⟨Z, ρ, φ, ⟨T, d, v, RT0, h⟩ | ⟨R0, hn, h⟩⟩
  · have D0 := RT0.D0
    refine ⟨Z, ρ, φ, D0.R, ?_⟩
    unfold sSeq sHid sSet at h
    rw [set_back D0.un] at h
    have hl : i < ρ.length := (List.getElem?_eq_some_iff.mp D0.un).1
    cases hA : A ρ φ with
    | bad => rw [hA] at h; exact h.elim
    | ex y l φ1 => rw [hA] at h; exact fun cls dx Z' H' e' w' r => h cls dx σ Z' H' own ho (D0.R.more e' w') r
    | ok z φ1 =>
      rw [hA] at h
      intro u Z1 H1 e1 w1 r1
      have D1 := D0.more e1 w1
      have hh : PostS c w on (B ((ρ.set j (some z)).set i (some d)) φ1) Dn Z := by
        have : ((ρ.set i (some d))[i]?.getD none) = some d := by rw [List.getElem?_set_self hl]; rfl
        have h' : PostS c w on (B ((ρ.set j (some z)).set i ((ρ.set i (some d))[i]?.getD none)) φ1) Dn Z := h
        rw [this] at h'
        exact h'
      refine ⟨Z1, ρ.set j (some z), φ1, .inl ⟨T, d, v, ⟨?_, RT0.rp⟩, hh.shift e1.z⟩⟩
      have un : (ρ.set j (some z))[i]? = some none := by rw [List.getElem?_set_ne hij]; exact D0.un
      have sv : (σ.set j (some u))[i]? = some (some v) := by rw [List.getElem?_set_ne hij]; exact D0.sv
      rcases hm with ⟨rfl, hi, rfl⟩ | ⟨rfl, rfl⟩
      · refine ⟨D0.R.setO e1 w1 hi r1, un, sv, D1.t0, D1.rep, D1.ft, fun k a e h1 h2 h3 h4 => ?_⟩
        rcases get_set h2 with ⟨rfl, q⟩ | ⟨hk, q⟩
        · cases q
          rcases get_set h4 with ⟨_, q4⟩ | ⟨q4, _⟩
          · cases q4
            unfold Res at r1
            rw [if_pos h3] at r1
            obtain ⟨b, o, eb, hn, _⟩ := r1
            cases eb
            refine Classical.byContradiction fun q => ?_
            rw [(D0.t0 a q).2.2.2] at hn
            exact q hn
          · exact absurd rfl q4
        · rw [List.getElem?_set_ne (Ne.symm hk)] at h1 h4
          exact D1.nd k a e h1 q h3 h4
      · refine ⟨D1.R.setS r1, un, sv, D1.t0, D1.rep, D1.ft, fun k a e h1 h2 h3 h4 => ?_⟩
        rcases get_set h1 with ⟨rfl, q⟩ | ⟨hk, q⟩
        · cases q
        · rw [List.getElem?_set_ne (Ne.symm hk)] at h2 h4
          exact D1.nd k a e q h2 h3 h4
  · refine ⟨Z, ρ, φ, R0, ?_⟩
    unfold sSeq sHid sSet at h
    rw [set_same hn] at h
    cases hA : A ρ φ with
    | bad => rw [hA] at h; exact h.elim
    | ex y l φ1 => rw [hA] at h; exact fun cls dx Z' H' e' w' r => h cls dx σ Z' H' own ho (R0.more e' w') r
    | ok z φ1 =>
      rw [hA] at h
      intro u Z1 H1 e1 w1 r1
      have un : (ρ.set j (some z))[i]? = some none := by rw [List.getElem?_set_ne hij]; exact hn
      have hh : PostS c w on (B (ρ.set j (some z)) φ1) Dn Z := by
        have h' : PostS c w on (B ((ρ.set j (some z)).set i (ρ[i]?.getD none)) φ1) Dn Z := h
        rw [hn] at h'
        have h2 : PostS c w on (B ((ρ.set j (some z)).set i none) φ1) Dn Z := h'
        rw [set_same un] at h2
        exact h2
      refine ⟨Z1, ρ.set j (some z), φ1, .inr ⟨?_, un, hh.shift e1.z⟩⟩
      rcases hm with ⟨rfl, hi, rfl⟩ | ⟨rfl, rfl⟩
      · exact R0.setO e1 w1 hi r1
      · exact (R0.more e1 w1).setS r1
/-- x[k].append(e), x a tuple: x forgotten -/
def sPokeT (i k : Nat) (A : SX) : SS := fun ρ φ => match ρ[i]? with
  | some (some (.tup ds)) => (match ds[k]? with
    | some (.lst es) => if es.length < sizeLine then (A (ρ.set i none) φ).toR (ρ.set i none) fun _ φ1 => .nx (ρ.set i none) φ1 else .bad
    | _ => .bad)
  | _ => .bad
theorem jt_poke (i k : Nat) {x : Str} {e : Expr} {A : SX} {p1 p2 p3 apos cpos pos2 : Pos} {kk : Nat} (ha : EX X c own .s w.W e A)
    (hN : X.N[i]? = some x := by rfl) (hv : Vis X.env.scope x := by first | exact Or.inl rfl | exact Or.inr (Or.inl rfl) | exact Or.inr (Or.inr rfl))
    (hd : (x == ("__debug__" : Str)) = false := by decide) (hcd : (x == ("__classdict__" : Str)) = false := by decide)
    (hbase : attributeBase (.Subscript (.Name x p1) (.Constant (.int k) kk p2) p3) "append" X.env (eval (.Subscript (.Name x p1) (.Constant (.int k) kk p2) p3) X.env) = eval (.Subscript (.Name x p1) (.Constant (.int k) kk p2) p3) X.env := by rfl)
    (hfew : ((backTo cpos (starEach [e] X.env)).all (fun x => !x.1) && (backToKw cpos (keywordEach [] X.env)).all (fun x => x.1.isSome) && decide ([e].length + ([] : List Keyword).length + (if ([] : List Keyword).isEmpty then 0 else 1) < 30)) = true := by rfl)
    (hline : (apos.endLine == cpos.line) = true := by rfl) (hse : starEach [e] X.env = (false, eval e X.env) :: starEach [] X.env := by rfl) (hplain : (backTo cpos (starEach [] X.env)).any (·.1) = false := by rfl)
    (hs : swapsWith (.Call (.Attribute (.Subscript (.Name x p1) (.Constant (.int k) kk p2) p3) "append" apos) [e] [] cpos) none pos2.line X.env = pure false := by rfl) (ho : w.ox own := by first | exact trivial | rfl)
    (hK : X.K = c.K) (hpl : PlainIx (.Constant (.int k) kk p2) := by exact fun _ _ => rfl) :
    JTs X c w own own i [.Expr (.Call (.Attribute (.Subscript (.Name x p1) (.Constant (.int k) kk p2) p3) "append" apos) [e] [] cpos) pos2] (sPokeT i k A) := by
  refine PSs.weak (pss_cons (ps_expr (pe_bm PySem.F.plainAttrs_list PySem.F.slot_list_append PySem.F.type_list_append mt_append (pe_ix (ix_seq (X := X)) (pe_var hN hv hd hcd) pe_int hpl) (pa_cons ha pa_nil hse) hbase hfew hline hse hplain) hs) pss_nil) ?_
  rintro Dn σ H ⟨Z, ρ, φ, ⟨T, d, v, RT0, h⟩ | ⟨R0, hn, h⟩⟩
  · have D0 := RT0.D0
    have hl : i < ρ.length := (List.getElem?_eq_some_iff.mp D0.un).1
    unfold sPokeT at h
    rw [set_back D0.un, List.getElem?_set_self hl] at h
    cases d with
    | tup ds =>
      simp only at h
      cases hk : ds[k]? with
      | none => simp only [hk] at h; exact h.elim
      | some z =>
        cases z with
        | lst es =>
          simp only [hk] at h
          by_cases hc : es.length < sizeLine
          · rw [if_pos hc] at h
            obtain ⟨a, vs, rfl, hq, rs⟩ := (show Res .s c.K c.f T T T v (.tup ds) from RT0.rp).tup
            obtain ⟨u, hu, ru⟩ := rs.get hk
            cases ru with
            | cel hTb rc =>
              rename_i b o
              cases rc with
              | lst rs' =>
                rename_i us
                have hTb' : T b ≠ none := by rw [hTb]; simp
                obtain ⟨z1, z2, z3, z4⟩ := D0.t0 b hTb'
                have hHb : H b = some (.lst us) := z4.trans hTb
                have hqH : SqT c.K H a vs := sqT_mono (fun b' o' q => ((D0.t0 b' (by rw [q]; simp)).2.2.2).trans q) hq
                refine ⟨.ref a, D0.sv, .inr (.inl ⟨a, vs, k, .ref b, rfl, rfl, by rw [hK]; exact hqH, atI_nat hu, .inl ⟨rfl, us, SqL.of hHb⟩, Z, ρ, φ, D0.R, ?_⟩)⟩
                cases hA : A ρ φ with
                | bad => rw [hA] at h; exact h.elim
                | ex y l φ1 => rw [hA] at h; exact fun cls dx Z' H' e' w' r => h cls dx _ Z' H' own ho (D0.R.more e' w') r
                | ok z φ1 =>
                  rw [hA] at h
                  intro x Z1 H1 e1 w1 r1
                  have hH1 : H1 b = some (.lst us) := e1.h b _ z3 hHb
                  refine ⟨b, us, x, rfl, rfl, hH1, by rw [rs'.length]; exact hc, ?_⟩
                  exact h σ Z1 _ e1.z ((D0.R.more e1 w1).poke (e1.n b (by rw [hHb]; simp) z1) z2 z3 (by rw [hH1]; simp) (fun k' e h1 h2 h3 h4 => hTb' (D0.nd k' b e h1 h2 h3 h4)))
          · rw [if_neg hc] at h; exact h.elim
        | _ => simp only [hk] at h; exact h.elim
    | _ => exact h.elim
  · unfold sPokeT at h
    rw [hn] at h
    exact h.elim
/-- from here on nothing sees i -/
def sEndT (i : Nat) (B : SS) : SS := fun ρ φ => B (ρ.set i none) φ
theorem jt_end {i : Nat} {rest : List Stmt} {B : SS} (hr : SJs X c w own on rest B) : JTs X c w own on i rest (sEndT i B) := by
  refine PSs.weak hr ?_
  rintro Dn σ H ⟨Z, ρ, φ, ⟨T, d, v, RT0, h⟩ | ⟨R0, hn, h⟩⟩
  · unfold sEndT at h
    rw [set_back RT0.D0.un] at h
    exact ⟨Z, ρ, φ, RT0.D0.R, h⟩
  · unfold sEndT at h
    rw [set_same hn] at h
    exact ⟨Z, ρ, φ, R0, h⟩
end
end Pf

set_option Elab.async false
set_option linter.all false
set_option maxRecDepth 100000
set_option maxHeartbeats 4000000
namespace Pf
open PySem PySem.Spec PyProof.Rows L2

/-! ## range with a step -/
def stepTo (a s : Int) (n : Nat) : List D := (List.range n).map fun (k : Nat) => D.int (a + (k : Nat) * s)
def rg3 : List D → Option (List D)
  | [.int i, .int j, .int s] => if s ≠ 0 ∧ s.natAbs < 1073741824 ∧ Builtin.Range.small i j s = true ∧ 0 ≤ Builtin.Range.rangeSize i j s then some (stepTo i s (Builtin.Range.rangeSize i j s).toNat) else none
  | _ => none
def iRg3 (A : SA) : SA := fun ρ φ => (A ρ φ).bind fun ds φ1 => ofO (rg3 ds) φ1
theorem walk_step {q : Bool} {c : Ct} {a s : Int} {n : Nat} {Z0 H0 : Hp} : Walk q c (Itc a s n) (stepTo a s n) Z0 H0 := by
  intro i Z H φ k w
  have hl : (stepTo a s n).length = n := by unfold stepTo; rw [List.length_map, List.length_range]
  refine ⟨fun e => (show n ≤ i by omega), fun d hd => ?_⟩
  have hi : i < n := by rw [← hl]; exact (List.getElem?_eq_some_iff.mp hd).1
  refine ⟨hi, fun x H' hx => ?_⟩
  obtain ⟨rfl, rfl⟩ := hx
  refine ⟨Z, .refl, w, ?_⟩
  unfold stepTo at hd
  rw [List.getElem?_map, List.getElem?_range hi] at hd
  cases hd
  exact .int _
section
variable {X : Cx} {c : Ct} {own : List Ms} {q : Bool} {W : WX} {pos p : Pos} {tg a b e : Expr} {A : SA}
theorem i_range3 (hm : X.mg "range" = none) (ha : AX X c own .p W [a, b, e] A) (hg : Gl X "range" := by rfl) (hs : starEach [a, b, e] X.env = (false, eval a X.env) :: starEach [b, e] X.env := by rfl) (hpl : (backTo pos (starEach [b, e] X.env)).any (·.1) = false := by rfl) :
    IJ X c own q W tg (.Call (.Name "range" p) [a, b, e] [] pos) (iRg3 A) := by
  refine PI.weak (pi_range3 hg hm ha hs hpl) ?_
  rintro σ H R0 ⟨Z, ρ, φ, R, h⟩
  refine ⟨Z, ρ, φ, R, PostA.bindI (R0 := R0) h fun ds φ1 xs Z1 H1 e1 w1 r1 h1 => ?_⟩
  obtain ⟨l0, hl, h2⟩ := ofO_ok (E := fun o => PostI c q W o σ Z1 H1 R0) h1 fun z => z
  match ds, xs, r1, hl with
  | [.int i, .int j, .int s], [x, y, z], r1, hl =>
    have hl' : (if s ≠ 0 ∧ s.natAbs < 1073741824 ∧ Builtin.Range.small i j s = true ∧ 0 ≤ Builtin.Range.rangeSize i j s then some (stepTo i s (Builtin.Range.rangeSize i j s).toNat) else none) = some l0 := hl
    obtain ⟨⟨c0, c1, c2, c3⟩, rfl⟩ := ifs hl'
    obtain ⟨r2, r3, r4, _⟩ := r1
    refine ⟨i, j, s, (Builtin.Range.rangeSize i j s).toNat, ?_, ⟨c0, c1, c2, (Int.toNat_of_nonneg c3).symm⟩, h2 _ Z1 H1 .refl w1 walk_step⟩
    rw [Res.int r2, Res.int r3, Res.int r4]
end

/-! ## a def as a value, and a call of a name that holds one -/
theorem PE.later {X : Cx} {e : Expr} {ι : Type} {t : ι → TE} (h : ∀ i, PE X e (t i)) : PE X e (fun σ H Q => ∃ i, t i σ H Q) := ⟨fun pins s σ H Q I ⟨i, q⟩ => (h i).run pins s σ H Q I q⟩
def eFnv (x : Str) : SX := fun _ φ => .ok (.fnv x) φ
/-- what the name in slot i does: tbl tells the defs that it may hold -/
def eCallV (i : Nat) (tbl : Str → Option Fn) (A : SA) : SX := fun ρ φ => match ρ[i]? with
  | some (some (.fnv x)) => (match tbl x with
    | some F => (match A ρ φ with
      | .ok ds φ1 => (match F ds φ1 with
        | .ok d φ2 => .ok d φ2
        | _ => .bad)
      | .ex y l φ1 => .ex y l φ1
      | .bad => .bad)
    | none => .bad)
  | _ => .bad
section
variable {X : Cx} {c : Ct} {own : List Ms} {m : Md} {W : WX} {pos p : Pos}
theorem x_fnv {x : Str} {f : Addr} (hK : X.K = c.K) (hn : PySem.W.nsIn X.K mainGlobals x = some (some (.ref f))) (hm : X.mg x = some (.ref f)) (hg : Gl X x := by rfl) (hd : (x == ("__debug__" : Str)) = false := by decide) : EX X c own .o W (.Name x pos) (eFnv x) := by
  refine PE.weak (pe_glob (v := .ref f) hg hm rfl hd) fun σ H Q ⟨Z, ρ, φ, R, h⟩ => h _ Z H .refl R.wf (Res.of_flat (.fnv ?_) rfl)
  rw [← hK]
  exact hn
/-- each def of the table stands in the text with its promise -/
def TblK (P : Program) (w : World) (K : PySem.W.Frag) (mg : Str → Option Value) (base : Heap) (cls : Str → Option (Addr × List Str)) (k : Nat) (pm : List Bool) (m : Md) (tbl : Str → Option Fn) : Prop := ∀ x F a, tbl x = some F → PySem.W.nsIn K mainGlobals x = some (some (.ref a)) → ∃ (fd : FuncData) (ps : List Str), PySem.W.keepIn K (.ref a) = true ∧ Binds K fd ps [] ∧ FnOk P w K mg base (L2N.CX P w) k a fd ps (spF cls K pm m F)
abbrev TblOk (X : Cx) (c : Ct) (k : Nat) (pm : List Bool) (m : Md) (tbl : Str → Option Fn) : Prop := TblK X.prog X.w X.K X.mg X.base c.cls k pm m tbl
theorem TblK.nil {P : Program} {w : World} {K : PySem.W.Frag} {mg : Str → Option Value} {base : Heap} {cls : Str → Option (Addr × List Str)} {k : Nat} {pm : List Bool} {m : Md} : TblK P w K mg base cls k pm m fun _ => none := fun _ _ _ h => by cases h
theorem TblK.cons {P : Program} {w : World} {K : PySem.W.Frag} {mg : Str → Option Value} {base : Heap} {cls : Str → Option (Addr × List Str)} {k j : Nat} {pm : List Bool} {m : Md} {tbl : Str → Option Fn} {y : Str} {G : Fn} {f : Addr} {fd : FuncData} {ps : List Str} (T : TblK P w K mg base cls k pm m tbl) (hn : PySem.W.nsIn K mainGlobals y = some (some (.ref f))) (hk : PySem.W.keepIn K (.ref f) = true) (hb : Binds K fd ps []) (hF : FnOk P w K mg base (L2N.CX P w) j f fd ps (spF cls K pm m G)) (hj : j ≤ k) :
    TblK P w K mg base cls k pm m fun x => if x = y then some G else tbl x := fun x F a ht ha => by
  by_cases h : x = y
  · subst h
    have ht' : (if x = x then some G else tbl x) = some F := ht
    rw [if_pos rfl] at ht'
    cases ht'
    rw [hn] at ha
    cases ha
    exact ⟨fd, ps, hk, hb, hF.mono hj⟩
  · have ht' : (if x = y then some G else tbl x) = some F := ht
    rw [if_neg h] at ht'
    exact T x F a ht' ha
theorem x_callV (i : Nat) {tbl : Str → Option Fn} {k : Nat} {pm : List Bool} {y : Str} {e : Expr} {es : List Expr} {A : SA} (hK : X.K = c.K) (T : TblOk X c k pm m tbl) (hr : Room k X.A) (ha : AXM X c own pm W (e :: es) A)
    (hN : X.N[i]? = some y := by rfl) (hv : Vis X.env.scope y := by first | exact Or.inl rfl | exact Or.inr (Or.inl rfl) | exact Or.inr (Or.inr rfl))
    (hdb : (y == ("__debug__" : Str)) = false := by decide) (hcd : (y == ("__classdict__" : Str)) = false := by decide)
    (he : starEach (e :: es) X.env = (false, eval e X.env) :: starEach es X.env := by rfl) (hpl : (backTo pos (starEach es X.env)).any (·.1) = false := by rfl) : EX X c own m W (.Call (.Name y p) (e :: es) [] pos) (eCallV i tbl A) := by
  refine PE.weak (PE.later (ι := { z : Str × Fn × Addr // tbl z.1 = some z.2.1 ∧ PySem.W.nsIn X.K mainGlobals z.1 = some (some (.ref z.2.2)) }) fun z => ?_) (fun σ H Q h => ?_) (t := fun σ H Q => ∃ z : { z : Str × Fn × Addr // tbl z.1 = some z.2.1 ∧ PySem.W.nsIn X.K mainGlobals z.1 = some (some (.ref z.2.2)) }, tCallL i z.1.2.2 (spF c.cls X.K pm m z.1.2.1) [] E0 (tM c own pm W A) σ H Q)
  · obtain ⟨fd, ps, h2, h3, h4⟩ := T _ _ _ z.2.1 z.2.2
    exact pe_callL (i := i) h4 hr hN hv h2 h3 .nil passN ha hdb hcd he hpl
  · obtain ⟨Z, ρ, φ, R, h⟩ := h
    unfold eCallV at h
    cases hi : ρ[i]? with
    | none => simp only [hi] at h; exact h.elim
    | some oi =>
      cases oi with
      | none => simp only [hi] at h; exact h.elim
      | some di =>
        cases di with
        | fnv x =>
          simp only [hi] at h
          cases ht : tbl x with
          | none => simp only [ht] at h; exact h.elim
          | some F =>
            simp only [ht] at h
            obtain ⟨v, hv', rv⟩ := R.look hi
            have rf : Rep c.K c.f Z v (.fnv x) := rv.flat rfl
            cases rf with
            | cel _ q => cases q
            | fnv hns =>
              rename_i a
              refine ⟨⟨(x, F, a), ht, by rw [hK]; exact hns⟩, hv', Z, ρ, φ, R, ?_⟩
              cases hA : A ρ φ with
              | bad => rw [hA] at h; exact h.elim
              | ex y l φ1 => rw [hA] at h; exact h
              | ok ds φ1 =>
                rw [hA] at h
                intro vs Z1 H1 e1 w1 r1
                show spF c.cls X.K pm m F (vs ++ []) H1 Q E0
                rw [List.append_nil]
                refine ⟨c.f, Z1, ds, φ1, by rw [hK]; exact w1, by rw [hK]; exact r1, ?_⟩
                rw [hK]
                cases hF : F ds φ1 with
                | ok d φ2 =>
                  simp only [hF] at h
                  exact fun v Z' H' e' w' r' => h v Z' H' (e1.trans e') w' (r'.start e1.k)
                | ex _ _ _ => simp only [hF] at h; exact h.elim
                | bad => simp only [hF] at h; exact h.elim
        | _ => simp only [hi] at h; exact h.elim
end
end Pf

set_option Elab.async false
set_option linter.all false
set_option maxRecDepth 100000
set_option maxHeartbeats 4000000
namespace Pf
open PySem PySem.Spec PyProof.Rows L2

/-! ## a name whose data lies apart is looked at by a part of the body -/
theorem Rl.leaveV {c : Ct} {own own1 : List Ms} {Z0 Zv Z1 : Hp} {ρ0 ρv ρ1 : En} {vi : Nat} {φ0 φ1 : Fd} {σ0 σ1 : L2.St} {H0 H1 : Hp} (R0 : Rl c own Z0 ρ0 φ0 σ0 H0) (kv : Sub Z0 Zv) (hv0 : ∀ j, j ≠ vi → ρv[j]? = ρ0[j]?) (R1 : Rl (subC c Zv ρv σ0 H0) own1 Z1 ρ1 φ1 σ1 H1) :
    Rl c (ownOut own own1) Z0 ((enOut own1 ρ1).set vi none) φ1 σ1 H1 := by
  obtain ⟨e2, w2⟩ := R0.wf.back kv R1.ext R1.wf
  have getE : ∀ {i : Nat} {d : D}, ((enOut own1 ρ1).set vi none)[i]? = some (some d) → (ρ1[i]? = some (some d) ∧ i ≠ vi) ∧ (Ms.pin own1[i]? = true ∨ (Ms.pin own1[i]? = false ∧ d.flatB = true)) := fun {i d} h => by
    have hne : i ≠ vi := by
      rcases get_set h with ⟨_, q⟩ | ⟨q, _⟩
      · cases q
      · exact q
    rw [List.getElem?_set_ne (Ne.symm hne)] at h
    unfold enOut at h
    rw [List.getElem?_mapIdx] at h
    cases e : ρ1[i]? with
    | none => rw [e] at h; cases h
    | some x =>
      rw [e] at h
      have h' : (if Ms.pin own1[i]? = true then x else flatO x) = some d := Option.some.inj h
      by_cases hp : Ms.pin own1[i]? = true
      · rw [if_pos hp] at h'
        rw [h']
        exact ⟨⟨rfl, hne⟩, .inl hp⟩
      · rw [if_neg hp] at h'
        cases x with
        | none => cases h'
        | some y =>
          have h'' : (if y.flatB = true then some y else none) = some d := h'
          by_cases hf : y.flatB = true
          · rw [if_pos hf] at h''
            cases h''
            exact ⟨⟨rfl, hne⟩, .inr ⟨by simpa using hp, hf⟩⟩
          · rw [if_neg hf] at h''; cases h''
  have getO : ∀ {i : Nat} {x : Ms}, (ownOut own own1)[i]? = some x → (Ms.pin own1[i]? = true ∧ own[i]? = some x) ∨ (Ms.pin own1[i]? = false ∧ x = .s) := fun {i x} h => by
    unfold ownOut at h
    rw [List.getElem?_mapIdx] at h
    cases e : own[i]? with
    | none => rw [e] at h; cases h
    | some y =>
      rw [e] at h
      have h' : (if Ms.pin own1[i]? = true then y else .s) = x := Option.some.inj h
      by_cases hp : Ms.pin own1[i]? = true
      · rw [if_pos hp] at h'; exact .inl ⟨hp, by rw [h']⟩
      · rw [if_neg hp] at h'; exact .inr ⟨by simpa using hp, h'.symm⟩
  have putO : ∀ {i : Nat} {x : Ms}, Ms.pin own1[i]? = true → own[i]? = some x → (ownOut own own1)[i]? = some x := fun {i x} hp h => by
    unfold ownOut
    rw [List.getElem?_mapIdx, h]
    show some (if Ms.pin own1[i]? = true then x else .s) = some x
    rw [if_pos hp]
  have pins : ∀ {i : Nat} {d : D}, Ms.pin own1[i]? = true → (ρ1[i]? = some (some d) ∧ i ≠ vi) → ρ0[i]? = some (some d) ∧ σ1[i]? = σ0[i]? := fun {i d} hp h => by
    obtain ⟨k1, k2⟩ := R1.pn i d h.1 (pin_iff.mp hp)
    have k1' : ρv[i]? = some (some d) := k1
    rw [hv0 i h.2] at k1'
    exact ⟨k1', k2⟩
  refine ⟨w2, R0.ext.trans e2, ?_, fun i d h1 h2 h3 => ?_, fun i d h1 h2 => ?_, fun i j a d e hij h1 h2 h3 h4 h5 h6 h7 h8 => ?_, fun i d h1 h2 => ?_, fun i d h1 h2 => ?_⟩
  · rw [List.length_set]
    unfold enOut
    rw [List.length_mapIdx]
    exact R1.len
  · obtain ⟨g1, g2⟩ := getE h1
    rcases g2 with hp | ⟨hp, hf⟩
    · obtain ⟨k1, k2⟩ := pins hp g1
      obtain ⟨v, hv, r⟩ := R0.sh i d k1 (fun e => h2 (putO hp e)) (fun e => h3 (putO hp e))
      exact ⟨v, by rw [k2]; exact hv, r⟩
    · by_cases ho : own1[i]? = some .o
      · obtain ⟨v, hv, r⟩ := R1.ow i d g1.1 ho
        exact ⟨v, hv, (r.flat (D.flatB_mt hf)).flatB hf⟩
      · have hpp : own1[i]? ≠ some .p := fun e => by rw [e] at hp; cases hp
        obtain ⟨v, hv, r⟩ := R1.sh i d g1.1 ho hpp
        exact ⟨v, hv, r.flatB hf⟩
  · rcases getO h2 with ⟨hp, ho⟩ | ⟨_, e⟩
    · obtain ⟨g1, _⟩ := getE h1
      obtain ⟨k1, k2⟩ := pins hp g1
      obtain ⟨v, hv, r⟩ := R0.ow i d k1 ho
      exact ⟨v, by rw [k2]; exact hv, r.mono e2⟩
    · cases e
  · rcases getO h1 with ⟨hp, ho⟩ | ⟨_, q⟩
    · rcases getO h2 with ⟨hp', ho'⟩ | ⟨_, q⟩
      · obtain ⟨k1, k2⟩ := pins hp (getE h3).1
        obtain ⟨k3, k4⟩ := pins hp' (getE h5).1
        rw [k2] at h7
        rw [k4] at h8
        exact R0.ne i j a d e hij ho ho' k1 h4 k3 h6 h7 h8
      · cases q
    · cases q
  · obtain ⟨g1, _⟩ := getE h1
    have hh : Ms.pin own1[i]? = true ∧ (own[i]? = some .p ∨ own[i]? = some .r) := by
      rcases h2 with h2 | h2 <;> rcases getO h2 with ⟨hp, ho⟩ | ⟨_, q⟩
      · exact ⟨hp, .inl ho⟩
      · cases q
      · exact ⟨hp, .inr ho⟩
      · cases q
    obtain ⟨k1, k2⟩ := pins hh.1 g1
    obtain ⟨n1, n2⟩ := R0.pn i d k1 hh.2
    exact ⟨n1, by rw [k2]; exact n2⟩
  · rcases getO h2 with ⟨hp, ho⟩ | ⟨_, q⟩
    · obtain ⟨g1, _⟩ := getE h1
      obtain ⟨k1, k2⟩ := pins hp g1
      obtain ⟨v, hv, r⟩ := R0.pk i d k1 ho
      exact ⟨v, by rw [k2]; exact hv, r⟩
    · cases q

def isSS : Option (Option D) → Bool
  | some (some _) => true
  | _ => false
theorem isSS_eq {x : Option (Option D)} (h : isSS x = true) : ∃ d, x = some (some d) := by
  rcases x with _ | _ | d
  · cases h
  · cases h
  · exact ⟨d, rfl⟩
def sView (i : Nat) (own1 : List Ms) (A B : SS) : SS := fun ρ φ => match A ρ φ with
  | .nx ρ1 φ1 => if isSS (ρ1[i]?) = true then B (((enOut own1 ρ1).set i none).set i (ρ[i]?.getD none)) φ1 else .bad
  | .rt d φ1 => .rt d φ1
  | _ => .bad
section
variable {X : Cx} {c : Ct} {w : Ow} {own own1 o1 on : List Ms} {pos : Pos}
theorem jt_view {i : Nat} (n : Nat) {sts : List Stmt} {A B : SS} (hw : own[i]? = some .s) (hp : Ms.pin own1[i]? = true) (h1 : ∀ (Z : Hp) (ρ : En) (σ : L2.St) (H : Hp), SJs X (subC c Z ρ σ H) ⟨w.m, W0, fun _ => True, []⟩ (ownIn own) own1 (sts.take n) A) (h2 : JTs X c w (ownOut own own1) on i (sts.drop n) B) :
    JTs X c w own on i sts (sView i own1 A B) := by
  have D1 := PSs.later (ι := Hp × En × L2.St × Hp) fun i => h1 i.1 i.2.1 i.2.2.1 i.2.2.2
  have D2 := pss_app D1 h2
  rw [List.take_append_drop] at D2
  refine PSs.weak D2 ?_
  rintro Dn σ H ⟨Z, ρ, φ, ⟨T, d, v, RA0, h⟩ | ⟨R0, hn, h⟩⟩
  · have D0 := RA0.D0
    have Rv := D0.view hw
    have hl : i < ρ.length := (List.getElem?_eq_some_iff.mp D0.un).1
    refine ⟨(jn Z T, ρ.set i (some d), σ, H), jn Z T, ρ.set i (some d), φ, Rv.enter, ?_⟩
    unfold sView at h
    cases hA : A (ρ.set i (some d)) φ with
    | nx ρ1 φ1 =>
      rw [hA] at h
      simp only at h
      by_cases hs : isSS (ρ1[i]?) = true
      · rw [if_pos hs] at h
        intro σ1 Z1 H1 k R1
        obtain ⟨d', hd'⟩ := isSS_eq hs
        obtain ⟨q1, q2⟩ := R1.pn i d' hd' (pin_iff.mp hp)
        have q1' : (ρ.set i (some d))[i]? = some (some d') := q1
        rw [List.getElem?_set_self hl] at q1'
        cases q1'
        have q2' : σ1[i]? = σ[i]? := q2
        have hil : i < (enOut own1 ρ1).length := by
          unfold enOut
          rw [List.length_mapIdx]
          exact (List.getElem?_eq_some_iff.mp hd').1
        have Rn := D0.R.leaveV (own1 := own1) (vi := i) (fun a o q => jn_l q) (fun j hj => List.getElem?_set_ne (Ne.symm hj)) R1
        have getO : ∀ {j : Nat}, (ownOut own own1)[j]? = some .o → Ms.pin own1[j]? = true ∧ own[j]? = some .o := fun {j} h => by
          unfold ownOut at h
          rw [List.getElem?_mapIdx] at h
          cases e : own[j]? with
          | none => rw [e] at h; cases h
          | some y =>
            rw [e] at h
            have h' : (if Ms.pin own1[j]? = true then y else .s) = .o := Option.some.inj h
            by_cases hp : Ms.pin own1[j]? = true
            · rw [if_pos hp] at h'; exact ⟨hp, by rw [h']⟩
            · rw [if_neg hp] at h'; cases h'
        refine ⟨Z, (enOut own1 ρ1).set i none, φ1, .inl ⟨T, d, v, ⟨⟨Rn, List.getElem?_set_self hil, ?_, fun a ha => ?_, D0.rep, D0.ft, fun j a e g1 g2 g3 g4 => ?_⟩, RA0.rp⟩, ?_⟩⟩
        · rw [q2']; exact D0.sv
        · obtain ⟨t1, t2, t3, t4⟩ := D0.t0 a ha
          refine ⟨t1, t2, t3, ?_⟩
          obtain ⟨o, ho⟩ := Option.ne_none_iff_exists'.mp ha
          rw [ho]
          exact R1.ext.h a o t3 (t4.trans ho)
        · obtain ⟨hpj, hoj⟩ := getO g1
          rcases get_set g2 with ⟨_, q⟩ | ⟨hj, q⟩
          · cases q
          · unfold enOut at q
            rw [List.getElem?_mapIdx] at q
            cases e1 : ρ1[j]? with
            | none => rw [e1] at q; cases q
            | some x =>
              rw [e1] at q
              have q' : (if Ms.pin own1[j]? = true then x else flatO x) = some e := Option.some.inj q
              rw [if_pos hpj] at q'
              subst q'
              obtain ⟨k1, k2⟩ := R1.pn j e e1 (pin_iff.mp hpj)
              have k1' : (ρ.set i (some d))[j]? = some (some e) := k1
              rw [List.getElem?_set_ne (Ne.symm hj)] at k1'
              have k2' : σ1[j]? = σ[j]? := k2
              rw [k2'] at g4
              exact D0.nd j a e hoj k1' g3 g4
        · rw [List.getElem?_set_self hl] at h
          exact h
      · rw [if_neg hs] at h; exact h.elim
    | rt z φ1 =>
      rw [hA] at h
      intro v' Z' H' e' w' r
      exact h v' Z' H' (Rv.ext.trans e') w' (Res.start r Rv.ext.k)
    | bk _ _ => rw [hA] at h; exact h.elim
    | ct _ _ => rw [hA] at h; exact h.elim
    | ex _ _ _ _ => rw [hA] at h; exact h.elim
    | bad => rw [hA] at h; exact h.elim
  · refine ⟨(Z, ρ, σ, H), Z, ρ, φ, R0.enter, ?_⟩
    unfold sView at h
    cases hA : A ρ φ with
    | nx ρ1 φ1 =>
      rw [hA] at h
      simp only at h
      by_cases hs : isSS (ρ1[i]?) = true
      · intro σ1 Z1 H1 k R1
        obtain ⟨d', hd'⟩ := isSS_eq hs
        obtain ⟨q1, _⟩ := R1.pn i d' hd' (pin_iff.mp hp)
        have q1' : ρ[i]? = some (some d') := q1
        rw [hn] at q1'
        cases q1'
      · rw [if_neg hs] at h; exact h.elim
    | rt z φ1 =>
      rw [hA] at h
      intro v' Z' H' e' w' r
      exact h v' Z' H' (R0.ext.trans e') w' (Res.start r R0.ext.k)
    | bk _ _ => rw [hA] at h; exact h.elim
    | ct _ _ => rw [hA] at h; exact h.elim
    | ex _ _ _ _ => rw [hA] at h; exact h.elim
    | bad => rw [hA] at h; exact h.elim
end
end Pf

set_option Elab.async false
set_option linter.all false
set_option maxRecDepth 100000
set_option maxHeartbeats 4000000
namespace Pf
open PySem PySem.Spec PyProof.Rows L2

/-- x = g(..), all that is handed in flat: all that x holds is new -/
def sFreshA (i : Nat) (F : Fn) (A : SA) (B : SS) : SS := fun ρ φ => match A ρ φ with
  | .ok ds φ1 => if i < ρ.length ∧ ds.all D.flatB = true then (match F ds (nofeed φ1) with
    | .ok z _ => if z.shp = true then B (ρ.set i (some z)) φ1 else .bad
    | _ => .bad) else .bad
  | .ex y l φ1 => .ex y l ρ φ1
  | .bad => .bad
theorem RArgs.flat {K : PySem.W.Frag} {f g : Addr} {Z Z' H H' : Hp} : ∀ {pm : List Bool} {vs : List V} {ds : List D}, RArgs K f Z H pm vs ds → ds.all D.flatB = true → RArgs K g Z' H' pm vs ds
  | [], [], [], _, _ => trivial
  | b :: pm, v :: vs, d :: ds, h, q => by
    rw [List.all_cons, Bool.and_eq_true] at q
    have r1 : Rep K f Z v d := h.1.flat (D.flatB_mt q.1)
    have r2 : Rep K f Z' v d := r1.flatB q.1
    have r3 : Rep K g Z' v d := by
      cases r2 with
      | non => exact .non
      | bl b => exact .bl b
      | int b => exact .int b
      | str b => exact .str b
      | cel _ q' => cases q' <;> cases q.1
      | tup _ _ => cases q.1
      | feed => cases q.1
      | exn => cases q.1
      | fnv _ => cases q.1
    exact ⟨Res.of_flat r3 (D.flatB_mt q.1), RArgs.flat h.2 q.2⟩
section
variable {X : Cx} {c : Ct} {w : Ow} {own o1 on : List Ms} {pos : Pos}
theorem jt_enterA (i : Nat) {x g : Str} {rest : List Stmt} {A : SA} {B : SS} {F : Fn} {m : Md} {k : Nat} {pm : List Bool} {e : Expr} {es : List Expr} {pos' p cpos : Pos} (hK : X.K = c.K) (hNd : X.N.Nodup) (C : Cal X.prog X.w X.K X.mg X.base c.cls g k pm m F) (hr : Room k X.A) (tk : L2N.Takes X w.W) (ha : AXM X c own pm w.W (e :: es) A) (hb : JTs X c w own on i rest B) (hm : m = .o ∨ m = .s := by first | exact .inl rfl | exact .inr rfl)
    (hN' : X.N[i]? = some x := by rfl) (hx : Loc X.env.scope x := by first | exact Or.inl rfl | exact Or.inr rfl) (hf : X.fn x = true ∨ X.env.scope.names.lookup x = some .local := by first | exact .inl rfl | exact .inr rfl)
    (hg : Gl X g := by rfl) (hdb : (g == ("__debug__" : Str)) = false := by decide)
    (he : starEach (e :: es) X.env = (false, eval e X.env) :: starEach es X.env := by rfl) (hpl : (backTo cpos (starEach es X.env)).any (·.1) = false := by rfl)
    (hs : swapsWith (.Call (.Name g p) (e :: es) [] cpos) (some (.Name x pos')) pos.line X.env = pure false := by rfl) (ho : w.ox own := by first | exact trivial | rfl) :
    SJs X c w own on (.Assign [.Name x pos'] (.Call (.Name g p) (e :: es) [] cpos) pos :: rest) (sFreshA i F A B) := by
  obtain ⟨f, fd, ps, h1, h2, h3, h4⟩ := C.ex
  refine PSs.weak (pss_cons (ps_set hNd hN' hx (pe_callS h4 hr hg h1 h2 h3 (fun σ => L2N.passAt tk σ) ha hdb he hpl) hs hf) hb) ?_
  rintro Dn σ H ⟨Z, ρ, φ, R0, h⟩
  unfold sFreshA at h
  refine ⟨Z, ρ, φ, R0, ?_⟩
  cases hA : A ρ φ with
  | bad => rw [hA] at h; exact h.elim
  | ex y l φ1 => rw [hA] at h; exact fun cls dx Z' H' e' w' r => h cls dx σ Z' H' own ho (R0.more e' w') r
  | ok ds φ1 =>
    rw [hA] at h
    simp only at h
    by_cases hc : i < ρ.length ∧ ds.all D.flatB = true
    · rw [if_pos hc] at h
      obtain ⟨hil, hfl⟩ := hc
      intro vs Z1 H1 e1 w1 r1
      have R1 := R0.more e1 w1
      obtain ⟨gf, hg1, _, wg⟩ := fake_feed R1.wf
      refine ⟨gf, fun _ => none, ds, nofeed φ1, by rw [hK]; exact wg, by rw [hK]; exact r1.flat hfl, ?_⟩
      rw [hK]
      cases hF : F ds (nofeed φ1) with
      | ok z φz =>
        simp only [hF] at h ⊢
        by_cases hz2 : z.shp = true
        · rw [if_pos hz2] at h
          intro v T H' e' w' r'
          have cl := SeqAt.canLay_of_shaped hz2
          have fin : ∀ {T' : Hp}, Ext gf (fun _ => none) H1 T' H' → Wf c.K gf T' H' φz → Rep c.K gf T' v z → tAp c w own on i B Dn (σ.set i (some v)) H' := fun {T'} e'' w'' r'' => by
            have RT0 := RA.enter R1 hil hg1 e'' w'' r'' cl
            exact ⟨Z1, _, φ1, .inl ⟨T', z, v, RT0, by rw [List.set_set]; exact PostS.shift h e1.z⟩⟩
          rcases hm with rfl | rfl
          · by_cases hmt : z.mt = true
            · unfold Res at r'
              rw [if_pos hmt] at r'
              obtain ⟨a, o, rfl, h0, hz, hfz, ha', rc⟩ := r'
              obtain ⟨e2, w2, r2⟩ := freeze (c := ⟨c.K, gf, c.Z, c.H, c.cls, c.s0, c.r0⟩) e' w' h0 hz hfz ha' rc
              exact fin e2 w2 r2
            · exact fin e' w' (r'.flat (by simpa using hmt))
          · exact fin e' w' r'
        · rw [if_neg hz2] at h; exact h.elim
      | ex _ _ _ => simp only [hF] at h; exact h.elim
      | bad => simp only [hF] at h; exact h.elim
    · rw [if_neg hc] at h; exact h.elim
/-- x[k].append(e), x a list: x forgotten -/
def sPokeL (i k : Nat) (A : SX) : SS := fun ρ φ => match ρ[i]? with
  | some (some (.lst ds)) => (match ds[k]? with
    | some (.lst es) => if es.length < sizeLine then (A (ρ.set i none) φ).toR (ρ.set i none) fun _ φ1 => .nx (ρ.set i none) φ1 else .bad
    | _ => .bad)
  | _ => .bad
theorem jt_pokeL (i k : Nat) {x : Str} {e : Expr} {A : SX} {B : SS} {rest : List Stmt} {p1 p2 p3 apos cpos pos2 : Pos} {kk : Nat} (hK : X.K = c.K) (ha : EX X c own .s w.W e A) (hr : SJs X c w own on rest B)
    (hN : X.N[i]? = some x := by rfl) (hv : Vis X.env.scope x := by first | exact Or.inl rfl | exact Or.inr (Or.inl rfl) | exact Or.inr (Or.inr rfl))
    (hd : (x == ("__debug__" : Str)) = false := by decide) (hcd : (x == ("__classdict__" : Str)) = false := by decide)
    (hbase : attributeBase (.Subscript (.Name x p1) (.Constant (.int k) kk p2) p3) "append" X.env (eval (.Subscript (.Name x p1) (.Constant (.int k) kk p2) p3) X.env) = eval (.Subscript (.Name x p1) (.Constant (.int k) kk p2) p3) X.env := by rfl)
    (hfew : ((backTo cpos (starEach [e] X.env)).all (fun x => !x.1) && (backToKw cpos (keywordEach [] X.env)).all (fun x => x.1.isSome) && decide ([e].length + ([] : List Keyword).length + (if ([] : List Keyword).isEmpty then 0 else 1) < 30)) = true := by rfl)
    (hline : (apos.endLine == cpos.line) = true := by rfl) (hse : starEach [e] X.env = (false, eval e X.env) :: starEach [] X.env := by rfl) (hplain : (backTo cpos (starEach [] X.env)).any (·.1) = false := by rfl)
    (hs : swapsWith (.Call (.Attribute (.Subscript (.Name x p1) (.Constant (.int k) kk p2) p3) "append" apos) [e] [] cpos) none pos2.line X.env = pure false := by rfl) (ho : w.ox own := by first | exact trivial | rfl)
    (hpl : PlainIx (.Constant (.int k) kk p2) := by exact fun _ _ => rfl) :
    JTs X c w own on i (.Expr (.Call (.Attribute (.Subscript (.Name x p1) (.Constant (.int k) kk p2) p3) "append" apos) [e] [] cpos) pos2 :: rest) (sSeq (sPokeL i k A) B) := by
  refine PSs.weak (pss_cons (ps_expr (pe_bm PySem.F.plainAttrs_list PySem.F.slot_list_append PySem.F.type_list_append mt_append (pe_ix (ix_seq (X := X)) (pe_var hN hv hd hcd) pe_int hpl) (pa_cons ha pa_nil hse) hbase hfew hline hse hplain) hs) hr) ?_
  rintro Dn σ H ⟨Z, ρ, φ, ⟨T, d, v, RT0, h⟩ | ⟨R0, hn, h⟩⟩
  · have D0 := RT0.D0
    have hl : i < ρ.length := (List.getElem?_eq_some_iff.mp D0.un).1
    unfold sSeq sPokeL at h
    rw [set_back D0.un, List.getElem?_set_self hl] at h
    cases d with
    | lst ds =>
      simp only at h
      cases hk : ds[k]? with
      | none => simp only [hk] at h; exact h.elim
      | some z =>
        cases z with
        | lst es =>
          simp only [hk] at h
          by_cases hc : es.length < sizeLine
          · rw [if_pos hc] at h
            have rp := RT0.rp
            cases rp with
            | cel hTa rca =>
              rename_i a oa
              cases rca with
              | lst rs =>
                rename_i vs
                obtain ⟨u, hu, ru⟩ := rs.get hk
                cases ru with
                | cel hTb rc =>
                  rename_i b o
                  cases rc with
                  | lst rs' =>
                    rename_i us
                    have hTb' : T b ≠ none := by rw [hTb]; simp
                    have hTa' : T a ≠ none := by rw [hTa]; simp
                    obtain ⟨z1, z2, z3, z4⟩ := D0.t0 b hTb'
                    have hHb : H b = some (.lst us) := z4.trans hTb
                    have hHa : H a = some (.lst vs) := ((D0.t0 a hTa').2.2.2).trans hTa
                    refine ⟨.ref a, D0.sv, .inl ⟨a, vs, k, .ref b, rfl, rfl, SqL.of hHa, atI_nat hu, .inl ⟨rfl, us, SqL.of hHb⟩, Z, ρ, φ, D0.R, ?_⟩⟩
                    cases hA : A ρ φ with
                    | bad => rw [hA] at h; exact h.elim
                    | ex y l φ1 => rw [hA] at h; exact fun cls dx Z' H' e' w' r => h cls dx _ Z' H' own ho (D0.R.more e' w') r
                    | ok z φ1 =>
                      rw [hA] at h
                      intro x Z1 H1 e1 w1 r1
                      have hH1 : H1 b = some (.lst us) := e1.h b _ z3 hHb
                      refine ⟨b, us, x, rfl, rfl, hH1, by rw [rs'.length]; exact hc, ?_⟩
                      exact ⟨Z1, ρ, φ1, (D0.R.more e1 w1).poke (e1.n b (by rw [hHb]; simp) z1) z2 z3 (by rw [hH1]; simp) (fun k' e h1 h2 h3 h4 => hTb' (D0.nd k' b e h1 h2 h3 h4)), PostS.shift h e1.z⟩
          · rw [if_neg hc] at h; exact h.elim
        | _ => simp only [hk] at h; exact h.elim
    | _ => exact h.elim
  · unfold sSeq sPokeL at h
    rw [hn] at h
    exact h.elim
/-- x[k][j].append(e1); x.append(e2), x a list of tuples, x[k][j] ints: x forgotten -/
def sPoke2 (i k j : Nat) (A1 A2 : SX) : SS := fun ρ φ => match ρ[i]? with
  | some (some (.lst ds)) => (match ds[k]? with
    | some (.tup es) => (match es[j]? with
      | some (.lst fs) => if (intsOf fs).isSome = true ∧ k < fs.length ∧ fs.length < sizeLine ∧ ds.length < sizeLine then (A1 (ρ.set i none) φ).toR (ρ.set i none) fun _ φ1 => (A2 (ρ.set i none) φ1).toR (ρ.set i none) fun _ φ2 => .nx (ρ.set i none) φ2 else .bad
      | _ => .bad)
    | _ => .bad)
  | _ => .bad
theorem jt_poke2 (i k j : Nat) {x : Str} {e e2 : Expr} {A A2 : SX} {B : SS} {rest : List Stmt} {p1 p2 p3 p4 p5 p6 apos cpos pos2 apos' cpos' pos3 : Pos} {kk kk' : Nat} (hK : X.K = c.K) (ha : EX X c own .s w.W e A) (ha2 : EX X c own .s w.W e2 A2) (hr : SJs X c w own on rest B)
    (hN : X.N[i]? = some x := by rfl) (hv : Vis X.env.scope x := by first | exact Or.inl rfl | exact Or.inr (Or.inl rfl) | exact Or.inr (Or.inr rfl))
    (hd : (x == ("__debug__" : Str)) = false := by decide) (hcd : (x == ("__classdict__" : Str)) = false := by decide)
    (hbase : attributeBase (.Subscript (.Subscript (.Name x p1) (.Constant (.int k) kk p2) p3) (.Constant (.int j) kk' p4) p5) "append" X.env (eval (.Subscript (.Subscript (.Name x p1) (.Constant (.int k) kk p2) p3) (.Constant (.int j) kk' p4) p5) X.env) = eval (.Subscript (.Subscript (.Name x p1) (.Constant (.int k) kk p2) p3) (.Constant (.int j) kk' p4) p5) X.env := by rfl)
    (hfew : ((backTo cpos (starEach [e] X.env)).all (fun x => !x.1) && (backToKw cpos (keywordEach [] X.env)).all (fun x => x.1.isSome) && decide ([e].length + ([] : List Keyword).length + (if ([] : List Keyword).isEmpty then 0 else 1) < 30)) = true := by rfl)
    (hline : (apos.endLine == cpos.line) = true := by rfl) (hse : starEach [e] X.env = (false, eval e X.env) :: starEach [] X.env := by rfl) (hplain : (backTo cpos (starEach [] X.env)).any (·.1) = false := by rfl)
    (hs : swapsWith (.Call (.Attribute (.Subscript (.Subscript (.Name x p1) (.Constant (.int k) kk p2) p3) (.Constant (.int j) kk' p4) p5) "append" apos) [e] [] cpos) none pos2.line X.env = pure false := by rfl)
    (hbase' : attributeBase (.Name x p6) "append" X.env (eval (.Name x p6) X.env) = eval (.Name x p6) X.env := by rfl)
    (hfew' : ((backTo cpos' (starEach [e2] X.env)).all (fun x => !x.1) && (backToKw cpos' (keywordEach [] X.env)).all (fun x => x.1.isSome) && decide ([e2].length + ([] : List Keyword).length + (if ([] : List Keyword).isEmpty then 0 else 1) < 30)) = true := by rfl)
    (hline' : (apos'.endLine == cpos'.line) = true := by rfl) (hse' : starEach [e2] X.env = (false, eval e2 X.env) :: starEach [] X.env := by rfl) (hplain' : (backTo cpos' (starEach [] X.env)).any (·.1) = false := by rfl)
    (hs' : swapsWith (.Call (.Attribute (.Name x p6) "append" apos') [e2] [] cpos') none pos3.line X.env = pure false := by rfl) (ho : w.ox own := by first | exact trivial | rfl)
    (hpl : PlainIx (.Constant (.int k) kk p2) := by exact fun _ _ => rfl) (hpl' : PlainIx (.Constant (.int j) kk' p4) := by exact fun _ _ => rfl) :
    JTs X c w own on i (.Expr (.Call (.Attribute (.Subscript (.Subscript (.Name x p1) (.Constant (.int k) kk p2) p3) (.Constant (.int j) kk' p4) p5) "append" apos) [e] [] cpos) pos2 :: .Expr (.Call (.Attribute (.Name x p6) "append" apos') [e2] [] cpos') pos3 :: rest) (sSeq (sPoke2 i k j A A2) B) := by
  refine PSs.weak (pss_cons (ps_expr (pe_bm PySem.F.plainAttrs_list PySem.F.slot_list_append PySem.F.type_list_append mt_append (pe_ix (ix_seq (X := X)) (pe_ix (ix_seq (X := X)) (pe_var hN hv hd hcd) pe_int hpl) pe_int hpl') (pa_cons ha pa_nil hse) hbase hfew hline hse hplain) hs)
    (pss_cons (ps_expr (pe_bm PySem.F.plainAttrs_list PySem.F.slot_list_append PySem.F.type_list_append mt_append (pe_var hN hv hd hcd) (pa_cons ha2 pa_nil hse') hbase' hfew' hline' hse' hplain') hs') hr)) ?_
  rintro Dn σ H ⟨Z, ρ, φ, ⟨T, d, v, RT0, h⟩ | ⟨R0, hn, h⟩⟩
  · have D0 := RT0.D0
    have hl : i < ρ.length := (List.getElem?_eq_some_iff.mp D0.un).1
    unfold sSeq sPoke2 at h
    rw [set_back D0.un, List.getElem?_set_self hl] at h
    cases d with
    | lst ds =>
      simp only at h
      cases hk : ds[k]? with
      | none => simp only [hk] at h; exact h.elim
      | some z =>
        cases z with
        | tup es =>
          simp only [hk] at h
          cases hj : es[j]? with
          | none => simp only [hj] at h; exact h.elim
          | some y =>
            cases y with
            | lst fs =>
              simp only [hj] at h
              by_cases hc : (intsOf fs).isSome = true ∧ k < fs.length ∧ fs.length < sizeLine ∧ ds.length < sizeLine
              · rw [if_pos hc] at h
                obtain ⟨hin, hkf, hfl, hdl⟩ := hc
                obtain ⟨ns, hns⟩ := Option.isSome_iff_exists.mp hin
                have rp := RT0.rp
                cases rp with
                | cel hTa rca =>
                  rename_i a oa
                  cases rca with
                  | lst rs =>
                    rename_i vs
                    obtain ⟨u, hu, ru⟩ := rs.get hk
                    obtain ⟨t, ts, rfl, hq, rt⟩ := (show Res .s c.K c.f T T T u (.tup es) from ru).tup
                    obtain ⟨u2, hu2, ru2⟩ := rt.get hj
                    cases ru2 with
                    | cel hTb rc =>
                      rename_i b o
                      cases rc with
                      | lst rs' =>
                        rename_i us
                        have hTb' : T b ≠ none := by rw [hTb]; simp
                        have hTa' : T a ≠ none := by rw [hTa]; simp
                        have hba : b ≠ a := fun e => by
                          rw [e, hTa] at hTb
                          cases hTb
                          have hfs := intsOf_inv hns
                          subst hfs
                          have := Reps.ints_inv rs'
                          rw [this, List.getElem?_map] at hu
                          obtain ⟨n, _, e2⟩ := Option.map_eq_some_iff.mp hu
                          cases e2
                        obtain ⟨z1, z2, z3, z4⟩ := D0.t0 b hTb'
                        obtain ⟨y1, y2, y3, y4⟩ := D0.t0 a hTa'
                        have hHb : H b = some (.lst us) := z4.trans hTb
                        have hHa : H a = some (.lst vs) := y4.trans hTa
                        have hqH : SqT c.K H t ts := sqT_mono (fun b' o' q => ((D0.t0 b' (by rw [q]; simp)).2.2.2).trans q) hq
                        refine ⟨.ref a, D0.sv, .inl ⟨a, vs, k, .ref t, rfl, rfl, SqL.of hHa, atI_nat hu, .inr (.inl ⟨t, ts, j, .ref b, rfl, rfl, by rw [hK]; exact hqH, atI_nat hu2, .inl ⟨rfl, us, SqL.of hHb⟩, Z, ρ, φ, D0.R, ?_⟩)⟩⟩
                        cases hA : A ρ φ with
                        | bad => rw [hA] at h; exact h.elim
                        | ex y l φ1 => rw [hA] at h; exact fun cls dx Z' H' e' w' r => h cls dx _ Z' H' own ho (D0.R.more e' w') r
                        | ok z φ1 =>
                          rw [hA] at h
                          intro x1 Z1 H1 e1 w1 r1
                          have hH1 : H1 b = some (.lst us) := e1.h b _ z3 hHb
                          have hH1a : H1 a = some (.lst vs) := e1.h a _ y3 hHa
                          refine ⟨b, us, x1, rfl, rfl, hH1, by rw [rs'.length]; exact hfl, ?_⟩
                          have R1 := (D0.R.more e1 w1).poke (o := .lst (us ++ [x1])) (e1.n b (by rw [hHb]; simp) z1) z2 z3 (by rw [hH1]; simp) (fun k' e h1 h2 h3 h4 => hTb' (D0.nd k' b e h1 h2 h3 h4))
                          have ha1 : upd H1 b (.lst (us ++ [x1])) a = some (.lst vs) := by rw [upd_ne (Ne.symm hba)]; exact hH1a
                          refine ⟨.ref a, D0.sv, .inl ⟨rfl, vs, SqL.of ha1⟩, Z1, ρ, φ1, R1, ?_⟩
                          have h' : PostS c w on (((A2 ρ φ1).toR ρ fun _ φ2 => .nx ρ φ2).seq B) Dn Z := h
                          cases hA2 : A2 ρ φ1 with
                          | bad => rw [hA2] at h'; exact h'.elim
                          | ex y l φ2 => rw [hA2] at h'; exact fun cls dx Z' H' e' w' r => h' cls dx _ Z' H' own ho (R1.more e' w') r
                          | ok z2' φ2 =>
                            rw [hA2] at h'
                            intro x2 Z2 H2 e2' w2 r2
                            have hH2 : H2 a = some (.lst vs) := e2'.h a _ y3 ha1
                            have za1 : Z1 a = none := e1.n a (by rw [hHa]; simp) y1
                            refine ⟨a, vs, x2, rfl, rfl, hH2, by rw [rs.length]; exact hdl, ?_⟩
                            exact ⟨Z2, ρ, φ2, (R1.more e2' w2).poke (e2'.n a (by rw [ha1]; simp) za1) y2 y3 (by rw [hH2]; simp) (fun k' e h1 h2 h3 h4 => hTa' (D0.nd k' a e h1 h2 h3 h4)), PostS.shift h' fun b' u' q => e2'.z _ _ (e1.z _ _ q)⟩
              · rw [if_neg hc] at h; exact h.elim
            | _ => simp only [hj] at h; exact h.elim
        | _ => simp only [hk] at h; exact h.elim
    | _ => exact h.elim
  · unfold sSeq sPoke2 at h
    rw [hn] at h
    exact h.elim
end
end Pf

set_option Elab.async false
set_option linter.all false
set_option maxRecDepth 100000
set_option maxHeartbeats 2000000
namespace PySem
namespace XcAt
open PySem.W PySem.Calls PyProof.Rows PySem.HandSPX
/-! ### the text of __init__ -/
def iA (p1 p2 : Pos) : Arguments := { posonlyargs := [], args := [{ arg := "self", annotation := none, pos := p1 }, { arg := "at", annotation := none, pos := p2 }], vararg := none, kwonlyargs := [], kw_defaults := [], kwarg := none, defaults := [] }
def iB (q1 q2 q3 q4 : Pos) : List Stmt := [.Assign [.Attribute (.Name "self" q1) "at" q2] (.Name "at" q3) q4]
def iS : Scope := { kind := .function, names := [(PySem.Str.ofString "self", .local), (PySem.Str.ofString "at", .local)], isGenerator := false, isCoroutine := false, more := [] }
/-- what the written part says of Low, at C, and of its __init__, at fI -/
structure XcTxt (K : Frag) (mg : Str → Option Value) (x qn : Str) (C fI : Addr) : Prop where
  gC : mg x = some (.ref C)
  cls : ∃ nm q N bs bm sn sub ab col dd k0 k1 k2 k3 k5, K.lookup C = some (excClassObj nm q C N bs bm true sn sub ab col dd k0 k1 k2 k3 k5 "ValueError.__new__") ∧ refsVE bm = true
  sa : findIn K (.ref C) "__setattr__" = some (some (.builtin "object.__setattr__"))
  ga : findIn K (.ref C) "__getattribute__" = some (some (.builtin "BaseException.__getattribute__"))
  gg : findIn K (.ref C) "__getattr__" = some none
  noN : findIn K (.ref C) "at" = some none
  iC : findIn K (.ref C) "__init__" = some (some (.ref fI))
  tC : typeIn K (.ref fI) = some (.type "function")
  kC : keepIn K (.ref C) = true
  exC : subIn K (.ref C) (.type "BaseException") = some true
  tyC : typeIn K (.ref C) = some (.type "type")
  hdC : hasDictIn K C = true
  te : exmOne K (.ref C) (.ref C) = some true
  fn : ∃ (oc : Value) (od : Option Addr) (doc pm : Value) (an : Option Addr) (cdv ct : Value) (osl : Array (Option Value)) (p1 p2 q1 q2 q3 q4 : Pos),
    K.lookup fI = some ⟨oc, od, .func (fnOf "__init__" qn (iA p1 p2) (iB q1 q2 q3 q4) iS .none .none doc pm an cdv ct), osl⟩ ∧ codeIn K cdv qn = true
theorem one_size (v : Value) : [v].length ≤ sizeLine := by
  rw [sizeLine_eq]
  exact (by decide : 1 ≤ 16777216)
theorem kept_but {K : Frag} {h h' : Heap} {x : Addr} (X : K.In h) (hx : K.lookup x = none) (k : ∀ b o, b ≠ x → h.get? b = some o → h'.get? b = some o) : K.In h' := fun a o e =>
  k a o (fun z => by rw [z, hx] at e; cases e) (X a o e)
theorem ldC {M : Model} {s : Shared} {name : Str} {scope : Scope} {L a : Addr} {cd : Value} {m : Str → Option Value} {x : Str} {pos : Pos} {v : Value} {Q : Value → Shared → Prop} {A : Around} {E : Value → Shared → Prop} (hn : s.heap.Ns L m) (hv : m x = some v) (h : Q v s)
    (hk : scope.kind = .function := by rfl) (hl : (envOfC name scope L a cd).kindOf x = some .local := by rfl) (hd : (x == ("__debug__" : Str)) = false := by decide) :
    wpAny M A (eval (.Name x pos) (envOfC name scope L a cd)) Q E s := wpAny_Name (wpAny_loadName_local hk hl hn hv h) hd
/-- what __init__ leaves of a fresh exception at x -/
structure InitEnd (h h' : Heap) (x C dx t1 : Addr) (v : Value) : Prop where
  keep : ∀ b o, b ≠ x → h.get? b = some o → h'.get? b = some o
  obj : h'.get? x = some { cls := .ref C, dict := some dx, data := .fields #[.ref t1, .none, .none, .none, .bool false, .none] }
  dbig : h.objs.size ≤ dx
  dne : dx ≠ x
  ns : h'.Ns1 dx (fun y => if y = "at" then some v else none)
/-- a made Low -/
structure OwnMade (h h' : Heap) (e C d : Addr) (v : Value) : Prop where
  keep : ∀ b o, h.get? b = some o → h'.get? b = some o
  new : h.objs.size ≤ e
  obj : ∃ oe vs, h'.get? e = some oe ∧ oe.cls = .ref C ∧ oe.dict = some d ∧ oe.data = .fields vs ∧ vs[1]? = some .none ∧ vs[2]? = some .none
  dbig : h.objs.size ≤ d
  dne : d ≠ e
  ns : h'.Ns1 d (fun y => if y = "at" then some v else none)
section
variable {prog : Program} {w : World} {A : Around} {E : Value → Shared → Prop} {R : Result → Shared → Prop} {s : Shared} {K : Frag} {mg : Str → Option Value} {C fI : Addr}
theorem xc_init {cx qn : Str} (T : XcTxt K mg cx qn C fI) {x t0 : Addr} {v : Value} (X : K.In s.heap) (hlim : s.heap.NoLimit) (hx : s.heap.get? x = some (excO C t0)) (hnx : K.lookup x = none) (hroom : A.depth < recursionLimit)
    (hq : ∀ h' tk dx, InitEnd s.heap h' x C dx t0 v → R (.ok (.ret .none)) { s with heap := h', toks := tk }) :
    codeAny (model prog w) A (.call (.ref fI) ⟨[.ref x, v], []⟩) R s := by
  obtain ⟨oc, od, doc, pm, an, cdv, ct, osl, p1, p2, q1, q2, q3, q4, ho, hcd⟩ := T.fn
  obtain ⟨nm, q, N, bs, bm, sn, sub, ab, col, dd, k0, k1, k2, k3, k5, hC, hbm⟩ := T.cls
  have hcl : clsIn K C = some { name := nm, bases := bs, mro := .ref C :: bm, ns := N, qualname := q, hasDict := true, slotNames := sn, subclasses := sub, abstract := ab, collection := col, hasDel := false } := by unfold clsIn; rw [hC] <;> rfl
  refine Att.call_fn (binds := [("self", .ref x), ("at", v)]) X hlim ho hcd hroom (BindsTo.of_eq (by first | rfl | with_unfolding_all rfl)) (by first | rfl | decide | with_unfolding_all rfl) (fun s₁ IC => ?_) rfl rfl rfl
  obtain ⟨h₁, tk₁, rfl⟩ := IC.toInCall.same
  have k : ∀ b o, s.heap.get? b = some o → h₁.get? b = some o := IC.toInCall.keep
  have hn := IC.toInCall.ns
  have hxL : s.heap.objs.size ≠ x := Nat.ne_of_gt (Heap.lt_size hx)
  have X₁ : K.In h₁ := X.keeps k
  have hx₁ := k _ _ hx
  -- self.by = by
  show wpAny _ _ (execs _ _) _ _ _
  refine wpAny_execs_cons (plainObj_wpAny_Assign_Attribute ?_)
  refine ldC (v := v) hn (by first | rfl | with_unfolding_all rfl | kernel_rfl) (ldC (v := .ref x) hn (by first | rfl | with_unfolding_all rfl | kernel_rfl) ?_)
  refine set_plain X₁ (ox := excO C t0) (od := none) ⟨hx₁, rfl, rfl, trivial⟩ T.sa ?_
  refine exc_osa X₁ hx₁ hcl (show refsVE (.ref C :: bm) = true from hbm) rfl T.noN (fun h₃ tk₃ dx k₃ dn dne hx₃ hn₃ => ?_)
  show wpAny _ _ (execs _ _) _ _ _
  have z : s.heap.objs.size < h₁.objs.size := hn.lt
  exact wpAny_execs_nil (hq h₃ tk₃ dx ⟨fun b o hb e => k₃ b o hb (k b o e), hx₃, Nat.le_of_lt (Nat.lt_of_lt_of_le z dn), dne, hn₃⟩)
theorem xc_made {x qn : Str} (T : XcTxt K mg x qn C fI) {v : Value} (X : K.In s.heap) (hlim : s.heap.NoLimit) (hroom : A.depth + 1 < recursionLimit)
    (hq : ∀ h' tk e d, OwnMade s.heap h' e C d v → R (.ok (.ret (.ref e))) { s with heap := h', toks := tk }) :
    codeAny (model prog w) A (.call (.ref C) ⟨[v], []⟩) R s := by
  obtain ⟨nm, q, N, bs, bm, sn, sub, ab, col, dd, k0, k1, k2, k3, k5, hC, hbm⟩ := T.cls
  obtain ⟨hp, g, dr, tk, os⟩ := s
  have k : ∀ b o, hp.get? b = some o → ((hp.push (kdv_tup [v])).push (excO C hp.objs.size)).get? b = some o := fun b o e => Heap.get?_push_of_some _ (Heap.get?_push_of_some _ e)
  have hget : ((hp.push (kdv_tup [v])).push (excO C hp.objs.size)).get? (hp.objs.size + 1) = some (excO C hp.objs.size) := by heap_get
  have hnx : K.lookup (hp.objs.size + 1) = none := by
    cases e : K.lookup (hp.objs.size + 1) with
    | none => rfl
    | some o =>
      have z : hp.get? (hp.objs.size + 1) = some o := X _ _ e
      exact absurd (Nat.lt_of_succ_lt (Heap.lt_size z)) (Nat.lt_irrefl _)
  refine call_own F.excBase_ValueError (fun X => refsVE_contains X bm hbm) (X _ _ hC) (looks_findIn X T.iC) (fun self => bind_fn X self T.tC) (one_size v) ?_
  refine xc_init (s := ⟨(hp.push (kdv_tup [v])).push (excO C hp.objs.size), g, dr, tk, os⟩) T (X.keeps k) (hlim.keeps k) hget hnx ?_ fun h' tk' dx ⟨k', hx, dn, dne, hns⟩ => ?_
  · show A.depth + 1 < recursionLimit
    exact hroom
  · have old : ∀ b o, hp.get? b = some o → h'.get? b = some o := fun b o e => k' b o (Nat.ne_of_lt (Nat.lt_succ_of_lt (Heap.lt_size e))) (k b o e)
    have z : hp.objs.size + 1 + 1 ≤ dx := by
      first
        | (simpa only [Heap.size_push] using dn)
        | exact dn
        | (have q := dn; rw [Heap.size_push, Heap.size_push] at q; exact q)
    exact ⟨rfl, hq h' tk' (hp.objs.size + 1) dx ⟨old, Nat.le_succ _, ⟨_, _, hx, rfl, rfl, rfl, rfl, rfl⟩, Nat.le_trans (Nat.le_trans (Nat.le_succ _) (Nat.le_succ _)) z, dne, hns⟩⟩
end
end XcAt
end PySem
namespace L2
open PySem PySem.Spec PyProof.Rows
theorem relO_at {v : V} {v' : Value} (r : RelV v v') (f : Str) : RelO (List.lookup f [(("at" : Str), v)]) (if f = "at" then some v' else none) := by
  by_cases hw : f = "at"
  · subst hw
    rw [if_pos rfl]
    have q : List.lookup ("at" : Str) [(("at" : Str), v)] = some v := by simp [List.lookup]
    rw [q]
    exact r
  · rw [if_neg hw]
    have qw : (f == ("at" : Str)) = false := by simpa using hw
    have q2 : List.lookup f [(("at" : Str), v)] = none := by simp [List.lookup, qw]
    rw [q2]
    trivial
section
variable {X : Cx} {C fI : Addr} {x qn : Str}
/-- Low(e) -/
def tMkAt (C : Addr) (ta : TA) : St → Hp → XK → Prop := fun σ H Q => ta σ H fun vs H1 => ∃ v, vs = [v] ∧ ∀ d, H1 d = none → Q (.ref C) (some d) (upd H1 d (.xd [(("at" : Str), v)]))
theorem pmk_at {a : Expr} {ta : TA} {p pos : Pos} {k : Nat} (T : PySem.XcAt.XcTxt X.K X.mg x qn C fI) (hr : Room k X.A) (ha : PA X [a] ta) (hg : Gl X x := by rfl) (hdb : (x == ("__debug__" : Str)) = false := by decide)
    (he : starEach (a :: []) X.env = (false, eval a X.env) :: starEach [] X.env := by rfl) (hpl : (backTo pos (starEach [] X.env)).any (·.1) = false := by rfl) :
    L2N.PMk X (.Call (.Name x p) [a] [] pos) (tMkAt C ta) := by
  intro pins s σ H Q I h
  refine wpAny_Call_Name_kw (ld_glob I hg T.gC ?_ hdb)
  refine PySem.W.callWith_K (h₀ := X.base) I.ok.mod.kin T.kC (thn (ha.run pos pins s σ H _ I h) fun us s1 hh => ?_) he hpl
  obtain ⟨vs, H1, I1, r1, v, ev, q1⟩ := hh
  subst ev
  refine ⟨I1.kIn, ?_⟩
  cases r1 with
  | cons rv rn =>
    rename_i v' us'
    cases rn
    show wpAny _ _ (call (.ref C) [v']) _ _ _
    have hlim := I1.nolimit
    obtain ⟨hp, g, dr, tk, os⟩ := s1
    refine wpAny_call (PySem.XcAt.xc_made T I1.kIn hlim (by have := hr.dp; omega) fun h' tk' e d M => ?_)
    show L2N.MkP X pins σ Q (.ref e) ⟨h', g, dr, tk', os⟩
    obtain ⟨oe, fv, hoe, hc, hd, hdat, h1, h2⟩ := M.obj
    have hns := M.ns
    obtain ⟨G', g1, g2⟩ := restrict h' fun b => decide (b ≠ e)
    have gk : ∀ b, b ≠ e → G'.get? b = h'.get? b := fun b hb => g1 b (decide_eq_true hb)
    have ge : G'.get? e = none := g2 e (by simp)
    have old : ∀ b o, hp.get? b = some o → G'.get? b = some o := fun b o q => (gk b (Nat.ne_of_lt (Nat.lt_of_lt_of_le (Heap.lt_size q) M.new))).trans (M.keep b o q)
    have ob : ObjOk X.prog X.w (upd H1 d (.xd [(("at" : Str), v)])) G' d (.xd [(("at" : Str), v)]) :=
      ⟨_, hns.at (fun o q => (gk d M.dne).trans q), fun f => relO_at rv f⟩
    have J : Inv X pins σ (upd H1 d (.xd [(("at" : Str), v)])) ⟨G', g, dr, tk', os⟩ := I1.laid (t' := tk') old M.dbig ob
    refine ⟨e, oe, fv, ⟨G', g, dr, tk', os⟩, _, .ref C, some d, rfl, J, fun b o q => ?_, ge, hoe, ⟨hc, hd, fun vs e => by rw [hdat] at e; cases e; exact h2⟩, hdat, h1, ?_, rfl, I1.bare, raises_own T.exC T.tyC, q1 d (I1.hok.fresh M.dbig)⟩
    · by_cases hb : b = e
      · have q' : G'.get? b = some o := q
        rw [hb, ge] at q'; cases q'
      · exact (gk b hb).symm.trans q
    · rw [upd_ne (Ne.symm M.dne)]
      exact I1.hok.fresh M.new
end
end L2


set_option Elab.async false
set_option linter.all false
set_option maxRecDepth 100000
set_option maxHeartbeats 4000000
namespace Pf
open PySem PySem.Spec PyProof.Rows L2

/-! ## raise -/
theorem upd_ext {c : Ct} {Z H : Hp} {φ : Fd} {p : Addr} (o : HO) (w : Wf c.K c.f Z H φ) (hp : H p = none) : p ≠ c.f ∧ Ext c.f Z H Z (upd H p o) ∧ Wf c.K c.f Z (upd H p o) φ := by
  have hf : p ≠ c.f := fun e => w.hf (e ▸ hp)
  have up : ∀ b u, H b = some u → upd H p o b = some u := fun b u q => by rw [upd_ne (ne_of_none q hp)]; exact q
  refine ⟨hf, ⟨fun _ _ q => q, fun b u _ q => up b u q, fun b hb => ?_, fun _ _ q => q, .same (upd_ne (Ne.symm hf))⟩, ⟨fun b u q => up b u (w.sub b u q), w.zf, ?_, w.ok⟩⟩
  · cases e : H b with
    | none => exact absurd e hb
    | some u => rw [up b u e]; simp
  · obtain ⟨s, h1, h2⟩ := w.feed
    exact ⟨s, h1, up _ _ h2⟩
/-- raise x(e) -/
def sRaise (x : Str) (A : SA) : SS := fun ρ φ => match A ρ φ with
  | .ok ds φ1 => if ds.length = 1 then .ex x ds ρ φ1 else .bad
  | .ex y l φ1 => .ex y l ρ φ1
  | .bad => .bad
section
variable {X : Cx} {c : Ct} {w : Ow} {own on : List Ms} {pos : Pos}
theorem s_raise {x qn : Str} {C fI : Addr} {e : Expr} {A : SA} {p pos2 : Pos} {k : Nat} (T : PySem.XcAt.XcTxt X.K X.mg x qn C fI) (hcls : c.cls x = some (C, [("at" : Str)])) (hc : X.calm = true) (hr : Room k X.A) (tk : L2N.Takes X w.W) (ha : AX X c own .s w.W [e] A)
    (hg : Gl X x := by rfl) (hdb : (x == ("__debug__" : Str)) = false := by decide)
    (he : starEach (e :: []) X.env = (false, eval e X.env) :: starEach [] X.env := by rfl) (hpl : (backTo pos (starEach [] X.env)).any (·.1) = false := by rfl) (ho : w.ox own := by first | exact trivial | rfl) :
    SJ X c w own on (.Raise (some (.Call (.Name x p) [e] [] pos)) none pos2) (sRaise x A) := by
  refine PS.weak (L2N.ps_raise hc tk (L2.pmk_at T hr ha hg hdb he hpl)) ?_
  rintro Dn σ H ⟨Z, ρ, φ, R0, h⟩
  refine ⟨Z, ρ, φ, R0, ?_⟩
  unfold sRaise at h
  cases hA : A ρ φ with
  | bad => rw [hA] at h; exact h.elim
  | ex y l φ1 => rw [hA] at h; exact fun cls dx Z' H' e' w' r => h cls dx σ Z' H' own ho (R0.more e' w') r
  | ok ds φ1 =>
    rw [hA] at h
    intro vs Z1 H1 e1 w1 r1
    have h' : PostS c w on (if ds.length = 1 then R.ex x ds ρ φ1 else .bad) Dn Z := h
    by_cases hl : ds.length = 1
    · rw [if_pos hl] at h'
      have hv : vs.length = 1 := by rw [r1.length]; exact hl
      obtain ⟨v, rfl⟩ := List.length_eq_one_iff.mp hv
      refine ⟨v, rfl, fun d hd => ?_⟩
      obtain ⟨hf, e2, w2⟩ := upd_ext (c := c) (.xd [(("at" : Str), v)]) w1 hd
      refine h' (.ref C) (some d) σ Z1 (upd H1 d (.xd [(("at" : Str), v)])) own ho (R0.more (e1.trans e2) w2) ⟨C, [("at" : Str)], hcls, rfl, [v], r1.reps, rfl, .inr ⟨d, rfl, hf, ?_⟩⟩
      rw [upd_same]
      rfl
    · rw [if_neg hl] at h'
      exact h'.elim
end

/-! ## try: a body, except x as n: a suite that returns -/
def sTry (i : Nat) (y : Str) (A B : SS) : SS := fun ρ φ => match A ρ φ with
  | .ex x l ρ1 φ1 => if x = y ∧ i < ρ1.length then (match B (ρ1.set i (some (.exn y l))) φ1 with
    | .rt d φ2 => .rt d φ2
    | _ => .bad) else .bad
  | r => r
/-- how the caught exception lies: it is at a, its dict at d -/
structure Held (c : Ct) (i : Nat) (y : Str) (C : Addr) (fs : List Str) (a : Addr) (d : Option Addr) : Prop where
  s0 : c.s0[i]? = some (some (.ref a))
  r0 : ∃ l vs, c.r0[i]? = some (some (.exn y l)) ∧ Reps c.K c.f c.Z vs l ∧ vs.length = fs.length ∧ (fs = [] ∨ ∃ dd, d = some dd ∧ dd ≠ c.f ∧ c.H dd = some (.xd (fs.zip vs)))
theorem takes0N {X : Cx} : L2N.Takes X (fun _ _ _ _ => False) := fun _ _ x => by
  obtain ⟨_, _, _, _, _, _, _, _, _, _, _, _, _, _, _, _, z⟩ := x
  exact z.elim
section
variable {X : Cx} {c : Ct} {w : Ow} {own on own1 : List Ms} {pos pos' np : Pos}
theorem s_try (i : Nat) {y xn n : Str} {C : Addr} {fs : List Str} {cV : Value} {body suite : List Stmt} {b₀ : Stmt} {A B : SS} (hK : X.K = c.K) (hcls : c.cls y = some (C, fs)) (hex : PySem.W.exmOne X.K (.ref C) cV = some true) (hc : Names X xn cV)
    (hb : ∀ (W : WX) (pn : List (Addr × Obj)) (xe : Value → Shared → Prop), L2N.Takes (X.tr pn xe) W → SJs (X.tr pn xe) c ⟨w.m, W, fun o => o = own, w.lp⟩ own on body A)
    (hsu : ∀ (a : Addr) (oe : Obj) (d : Option Addr) (pn : List (Addr × Obj)) (Z : Hp) (ρ : En) (σ : L2.St) (H : Hp), L2N.Zn (.ref C) d oe → (∃ vs, oe.data = .fields vs) → Held (subC c Z ρ σ H) i y C fs a d →
      SJs (X.suite a ((a, oe) :: pn)) (subC c Z ρ σ H) ⟨w.m, W0, fun _ => True, []⟩ (ownIn (own.set i .s)) own1 (b₀ :: suite) B)
    (hs : X.stack = X.env :: X.outer := by rfl) (hf : X.env.frame = some X.env.locals := by rfl) (hN : X.N.Nodup := by decide) (hi : X.N[i]? = some n := by rfl) (hln : X.env.kindOf n = some .local := by rfl) :
    SJ X c w own on (.Try body [.ExceptHandler (some (.Name xn np)) (some n) (b₀ :: suite) pos'] [] [] pos) (sTry i y A B) := by
  let ts : Addr → Value → Option Addr → TS := fun a cls d Dn σ H => ∃ ix : { q : Hp × En × L2.St × Hp // Held (subC c q.1 q.2.1 q.2.2.1 q.2.2.2) i y C fs a d ∧ cls = .ref C }, tS (subC c ix.1.1 ix.1.2.1 ix.1.2.2.1 ix.1.2.2.2) ⟨w.m, W0, fun _ => True, []⟩ (ownIn (own.set i .s)) own1 B Dn σ H
  refine PS.weak (L2N.ps_try_as (i := i) (tb := fun W => tS c ⟨w.m, W, fun o => o = own, w.lp⟩ own on A) (ts := ts) (Wout := fun _ _ _ _ => False) hs hf hN hi hln hc takes0N (fun W pn xe tk _ => hb W pn xe tk) (fun a oe cls d pn hz hf' => PSs.later fun ix => ?_)) ?_
  · obtain ⟨hh, rfl⟩ := ix.2
    exact hsu a oe d pn _ _ _ _ hz hf' hh
  · rintro Dn σ H ⟨Z, ρ, φ, R0, h⟩
    refine ⟨Z, ρ, φ, R0, ?_⟩
    unfold sTry at h
    cases hA : A ρ φ with
    | nx ρ1 φ1 => rw [hA] at h; exact h
    | rt d φ1 => rw [hA] at h; exact h
    | bk ρ1 φ1 => rw [hA] at h; exact h
    | ct ρ1 φ1 => rw [hA] at h; exact h
    | bad => rw [hA] at h; exact h
    | ex x l ρ1 φ1 =>
      rw [hA] at h
      have h' : PostS c w on (if x = y ∧ i < ρ1.length then (match B (ρ1.set i (some (.exn y l))) φ1 with | .rt d φ2 => R.rt d φ2 | _ => .bad) else .bad) Dn Z := h
      intro cls dx σ1 Z1 H1 ow hw R1 xr
      have hw' : ow = own := hw
      rw [hw'] at R1
      by_cases hxy : x = y ∧ i < ρ1.length
      · rw [if_pos hxy] at h'
        obtain ⟨rfl, hil⟩ := hxy
        obtain ⟨C', fs', e1, rfl, vs, rp, hl, hd⟩ := xr
        rw [hcls] at e1
        cases e1
        refine ⟨true, hex, fun _ a ha => ?_, fun q => nomatch q⟩
        have R2 : Rl c (own.set i .s) Z1 (ρ1.set i (some (.exn x l))) φ1 (σ1.set i (some (.ref a))) H1 := R1.setS .exn
        refine ⟨⟨⟨Z1, ρ1.set i (some (.exn x l)), σ1.set i (some (.ref a)), H1⟩, ⟨⟨?_, l, vs, ?_, rp, hl, hd⟩, rfl⟩⟩, Z1, _, φ1, R2.enter, ?_⟩
        · show (σ1.set i (some (.ref a)))[i]? = _
          rw [List.getElem?_set_self (by rw [R1.len]; exact hil)]
        · show (ρ1.set i (some (.exn x l)))[i]? = _
          rw [List.getElem?_set_self hil]
        · cases hB : B (ρ1.set i (some (.exn x l))) φ1 with
          | rt d φ2 =>
            rw [hB] at h'
            exact fun v Z2 H2 e2 w2 r2 => h' v Z2 H2 (R1.ext.trans e2) w2 (r2.start R1.ext.k)
          | nx _ _ => rw [hB] at h'; exact h'.elim
          | bk _ _ => rw [hB] at h'; exact h'.elim
          | ct _ _ => rw [hB] at h'; exact h'.elim
          | ex _ _ _ _ => rw [hB] at h'; exact h'.elim
          | bad => rw [hB] at h'; exact h'.elim
      · rw [if_neg hxy] at h'
        exact h'.elim
end
end Pf

set_option Elab.async false
set_option linter.all false
set_option maxRecDepth 100000
set_option maxHeartbeats 4000000
namespace Pf
open PySem PySem.Spec PyProof.Rows L2

section
variable {X : Cx} {c : Ct} {own : List Ms} {m : Md} {W : WX} {pos p p2 p3 : Pos} {a C : Addr} {oe : Obj} {d : Option Addr} {pn : List (Addr × Obj)} {y : Str} {fs : List Str}
/-- the exception that slot i holds -/
theorem held_at {Z H : Hp} {ρ : En} {φ : Fd} {σ : L2.St} {i : Nat} {l : List D} (hh : Held c i y C fs a d) (ho : own[i]? = some .r) (R : Rl c own Z ρ φ σ H) (h : ρ[i]? = some (some (.exn y l))) :
    σ[i]? = some (some (.ref a)) ∧ ∃ vs, Reps c.K c.f Z vs l ∧ vs.length = fs.length ∧ (fs = [] ∨ ∃ dd, d = some dd ∧ H dd = some (.xd (fs.zip vs))) := by
  obtain ⟨h1, h2⟩ := R.pn i _ h (.inr ho)
  obtain ⟨l', vs, h3, h4, h5, h6⟩ := hh.r0
  rw [h1] at h3
  cases h3
  refine ⟨h2.trans hh.s0, vs, h4.mono R.ext.z, h5, ?_⟩
  rcases h6 with h6 | ⟨dd, e1, e2, e3⟩
  · exact .inl h6
  · exact .inr ⟨dd, e1, R.ext.h dd _ e2 e3⟩
/-- e.f, f the one field -/
def eXf (i : Nat) (y : Str) : SX := fun ρ φ => match ρ[i]? with
  | some (some (.exn x [d])) => if x = y then .ok d φ else .bad
  | _ => .bad
theorem x_xf (i : Nat) {n f : Str} (T : L2.XfC X.K C) (hno : PySem.W.findIn X.K (.ref C) f = some none) (hz : L2N.Zn (.ref C) d oe) (hf : ∃ vs, oe.data = .fields vs) (hh : Held c i y C [f] a d) (ho : own[i]? = some .r := by rfl)
    (hN : X.N[i]? = some n := by rfl) (hv : Vis X.env.scope n := by first | exact Or.inl rfl | exact Or.inr (Or.inl rfl) | exact Or.inr (Or.inr rfl))
    (hd : (n == ("__debug__" : Str)) = false := by decide) (hcd : (n == ("__classdict__" : Str)) = false := by decide)
    (hb : attributeBase (.Name n p) f X.env (eval (.Name n p) X.env) = eval (.Name n p) X.env := by rfl) :
    EX (X.suite a ((a, oe) :: pn)) c own .s W (.Attribute (.Name n p) f pos) (eXf i y) := by
  refine PE.weak (L2.pe_xf T hno hz.zc hf (L2.pe_var (X := X.suite a ((a, oe) :: pn)) hN hv hd hcd) hb) ?_
  rintro σ H Q ⟨Z, ρ, φ, R, h⟩
  unfold eXf at h
  split at h
  · rename_i x z hi
    have h' : Post c .s W (if x = y then .ok z φ else .bad) σ Z H Q := h
    by_cases e : x = y
    · subst e
      rw [if_pos rfl] at h'
      obtain ⟨h1, vs, h2, h3, h4⟩ := held_at hh ho R hi
      rcases h4 with h4 | ⟨dd, e1, e2⟩
      · cases h4
      · obtain ⟨v, rfl⟩ := List.length_eq_one_iff.mp (show vs.length = 1 from h3)
        cases h2 with
        | cons rv _ => exact ⟨.ref a, h1, rfl, rfl, dd, [(f, v)], v, e1, e2, by simp [List.lookup], h' v Z H .refl R.wf rv⟩
    · rw [if_neg e] at h'
      exact h'.elim
  · exact h.elim
/-- isinstance(e, D), e the caught exception -/
def eIsX (i : Nat) (y : Str) (b : Bool) : SX := fun ρ φ => match ρ[i]? with
  | some (some (.exn x _)) => if x = y then .ok (.bl b) φ else .bad
  | _ => .bad
def rIsX (K : PySem.W.Frag) (C a dd : Addr) : List V → Hp → VK → Prop := fun xs H Q => ∃ (T : Addr) (b : Bool) (fs : List (Str × V)), xs = [.ref a, .ref T] ∧ H dd = some (.xd fs) ∧ PySem.W.kitOne K (.ref C) (.ref T) = some b ∧ Q (.bl b) H
theorem call_isX {dd : Addr} (T : L2.ExcC X.K C) (hz : L2N.Zn (.ref C) (some dd) oe) (hf : ∃ vs, oe.data = .fields vs) : CallR (X.suite a ((a, oe) :: pn)) (.builtin "isinstance") (rIsX X.K C a dd) := by
  intro pins s σ H xs us Q I r h
  obtain ⟨T', b, fs, rfl, hdd, e, q⟩ := h
  cases r with
  | cons rx rr =>
    cases rr with
    | cons rt rr =>
      cases rr
      cases rx
      cases rt
      obtain ⟨hget, _⟩ := I.pin (a, oe) (List.mem_append.mpr (.inl List.mem_cons_self))
      obtain ⟨vs, hv⟩ := hf
      have hx : ObjOk X.prog X.w H s.heap dd (.xd fs) := I.hok dd _ hdd
      obtain ⟨mA, hns, hr⟩ := hx
      obtain ⟨od, ho, hl⟩ := lookIn_ns hns
      have J : PySem.W.InstAt s.heap a oe C (some od) := ⟨hget, hz.1, by unfold PySem.W.notCls; rw [hv] <;> rfl, by rw [hz.2.1]; exact ho⟩
      have hcl : (PySem.W.clsIn X.K C).isSome = true := by
        obtain ⟨cd, hc, _⟩ := PySem.W.any_some T.hd
        rw [hc]
        rfl
      exact PySem.W.kia_one (PySem.W.kitx_exc hcl T.hg T.hk T.hs T.ha T.hn T.ht T.hm) I.kIn J e (fun z => nomatch z) fun tk => ⟨.bl b, H, I.kept (t' := tk) fun _ _ z => z, rfl, q⟩
theorem x_isX (i : Nat) {n x2 : Str} {T : Addr} {f : Str} (b : Bool) (E : L2.ExcC X.K C) (hz : L2N.Zn (.ref C) d oe) (hf : ∃ vs, oe.data = .fields vs) (hh : Held c i y C [f] a d) (hk : PySem.W.kitOne X.K (.ref C) (.ref T) = some b) (hm : X.mg "isinstance" = none) (hm2 : X.mg x2 = some (.ref T)) (ho : own[i]? = some .r := by rfl)
    (hN : X.N[i]? = some n := by rfl) (hv : Vis X.env.scope n := by first | exact Or.inl rfl | exact Or.inr (Or.inl rfl) | exact Or.inr (Or.inr rfl))
    (hd : (n == ("__debug__" : Str)) = false := by decide) (hcd : (n == ("__classdict__" : Str)) = false := by decide)
    (hg : Gl X "isinstance" := by rfl) (hg2 : Gl X x2 := by rfl) (hd2 : (x2 == ("__debug__" : Str)) = false := by decide)
    (he : starEach (.Name n p2 :: [.Name x2 p3]) X.env = (false, eval (.Name n p2) X.env) :: starEach [.Name x2 p3] X.env := by rfl) (hpl : (backTo pos (starEach [.Name x2 p3] X.env)).any (·.1) = false := by rfl) (he2 : starEach [Expr.Name x2 p3] X.env = (false, eval (.Name x2 p3) X.env) :: starEach [] X.env := by rfl) :
    EX (X.suite a ((a, oe) :: pn)) c own m W (.Call (.Name "isinstance" p) [.Name n p2, .Name x2 p3] [] pos) (eIsX i y b) := by
  obtain ⟨l0, vs0, _, _, _, hd6⟩ := id hh.r0
  rcases hd6 with hd6 | ⟨dd, rfl, _, _⟩
  · cases hd6
  · refine PE.weak (pe_callB (X := X.suite a ((a, oe) :: pn)) (call_isX E hz hf) hg hm (by decide +kernel) (pa_cons (L2.pe_var (X := X.suite a ((a, oe) :: pn)) hN hv hd hcd) (pa_cons (pe_glob (X := X.suite a ((a, oe) :: pn)) (v := .ref T) hg2 hm2 rfl hd2) pa_nil he2) he) (by decide) (by decide) he hpl) ?_
    rintro σ H Q ⟨Z, ρ, φ, R, h⟩
    unfold eIsX at h
    split at h
    · rename_i x l hi
      have h' : Post c m W (if x = y then .ok (.bl b) φ else .bad) σ Z H Q := h
      by_cases e : x = y
      · subst e
        rw [if_pos rfl] at h'
        obtain ⟨h1, vs, h2, h3, h4⟩ := held_at hh ho R hi
        rcases h4 with h4 | ⟨dd', e1, e2⟩
        · cases h4
        · cases e1
          exact ⟨.ref a, h1, T, b, _, rfl, e2, hk, h' (.bl b) Z H .refl R.wf (Res.of_flat (.bl b) rfl)⟩
      · rw [if_neg e] at h'
        exact h'.elim
    · exact h.elim
end

/-! ## a def that is called within a suite -/
structure CalH (P : Program) (w : World) (K : PySem.W.Frag) (mg : Str → Option Value) (base : Heap) (cls : Str → Option (Addr × List Str)) (x : Str) (k : Nat) (pm : List Bool) (m : Md) (F : Fn) : Prop where
  ex : ∃ (f : Addr) (fd : FuncData) (ps : List Str), mg x = some (.ref f) ∧ PySem.W.keepIn K (.ref f) = true ∧ Binds K fd ps [] ∧ L2H.FnH P w K mg base (L2N.CX P w) k f fd ps (spF cls K pm m F)
def eCallH (F : Fn) (A : SA) : SX := fun ρ φ => match A ρ φ with
  | .ok ds φ1 => (match F ds φ1 with
    | .ok d φ2 => .ok d φ2
    | _ => .bad)
  | .ex y l φ1 => .ex y l φ1
  | .bad => .bad
theorem hot_of {X : Cx} {a : Addr} {oe : Obj} {cls : Value} {d : Option Addr} {pn : List (Addr × Obj)} (hz : L2N.Zn cls d oe) (hf : ∃ vs, oe.data = .fields vs) : L2H.HotC (X.suite a ((a, oe) :: pn)) := by
  obtain ⟨vs, hv⟩ := hf
  exact ⟨(a, oe), ⟨rfl, vs, hv, hz.2.2 vs hv⟩, List.mem_cons_self⟩
section
variable {X : Cx} {c : Ct} {own : List Ms} {m : Md} {W : WX} {pos p : Pos} {x : Str} {k : Nat} {pm : List Bool} {F : Fn}
theorem x_callH {e : Expr} {es : List Expr} {A : SA} (hK : X.K = c.K) (C : CalH X.prog X.w X.K X.mg X.base c.cls x k pm m F) (hr : L2H.RoomH k X.A) (hc : L2H.HotC X) (ha : AXM X c own pm W (e :: es) A)
    (hg : Gl X x := by rfl) (hdb : (x == ("__debug__" : Str)) = false := by decide)
    (he : starEach (e :: es) X.env = (false, eval e X.env) :: starEach es X.env := by rfl) (hpl : (backTo pos (starEach es X.env)).any (·.1) = false := by rfl) : EX X c own m W (.Call (.Name x p) (e :: es) [] pos) (eCallH F A) := by
  obtain ⟨f, fd, ps, h1, h2, h3, h4⟩ := C.ex
  refine PE.weak (L2H.pe_callH (E := fun _ => E0) h4 hr hc hg h1 h2 h3 (fun σ _ _ _ _ _ _ z => by obtain ⟨_, _, _, _, _, _, _, _, _, _, _, _, z⟩ := z; exact z.elim) ha hdb he hpl) ?_
  rintro σ H Q ⟨Z, ρ, φ, R, h⟩
  refine ⟨Z, ρ, φ, R, ?_⟩
  unfold eCallH at h
  cases hA : A ρ φ with
  | bad => rw [hA] at h; exact h.elim
  | ex y l φ1 => rw [hA] at h; exact h
  | ok ds φ1 =>
    rw [hA] at h
    intro vs Z1 H1 e1 w1 r1
    show spF c.cls X.K pm m F vs H1 Q E0
    refine ⟨c.f, Z1, ds, φ1, by rw [hK]; exact w1, by rw [hK]; exact r1, ?_⟩
    rw [hK]
    cases hF : F ds φ1 with
    | ok d φ2 =>
      simp only [hF] at h
      exact fun v Z' H' e' w' r' => h v Z' H' (e1.trans e') w' (r'.start e1.k)
    | ex _ _ _ => simp only [hF] at h; exact h.elim
    | bad => simp only [hF] at h; exact h.elim
end
section
variable {P : Program} {w : World} {K : PySem.W.Frag} {mg : Str → Option Value} {base : Heap}
theorem fnH_sem {cls : Str → Option (Addr × List Str)} {x qual : Str} {st : Stmt} {f : Addr} {fd : FuncData} {N ps : List Str} {k : Nat} (F : Fun K x qual st f fd) (S : FnScope N ps (defScope st)) (pm : List Bool) (hpm : pm.length = ps.length) (m : Md) (B : SS) {on : List Ms}
    (D : ∀ (cdv : Value) (A : Around) (outer : List Env) (s : Shared) (H : Hp) (E : XK) (q : Addr × Obj) (cf : Addr) (cZ cH : Hp) (s0 : L2.St) (r0 : En), L2H.Hot1 A q → L2H.RoomH k (A.deeper (envOfC qual (defScope st) s.heap.objs.size f cdv)) →
      SJs (L2H.cxH (L2N.CX P w) P w K mg base N qual (defScope st) f cdv A outer s H E q) ⟨K, cf, cZ, cH, cls, s0, r0⟩ ⟨m, fun cls d _ H => E cls d H, fun _ => True, []⟩ (ownS pm N.length) on (defBody st) B) :
    L2H.FnH P w K mg base (L2N.CX P w) (k + 1) f fd ps (spF cls K pm m (runB B ps.length N.length)) := by
  obtain ⟨_, _, _, _, _, _, cdv, _, _, rfl, lk, hcd⟩ := F.ex
  refine L2H.fn_ofH lk hcd S (fun vs H Q E h => ?_) (fun A outer s H vs Q E q hot hr h => ?_)
  · obtain ⟨f, Z, ds, φ, _, rs, _⟩ := h
    rw [rs.lens.1, hpm]
  · obtain ⟨f, Z, ds, φ, wf, rs, h⟩ := h
    have hl : ds.length = ps.length := by rw [rs.lens.2, hpm]
    have hv : vs.length = ps.length := by rw [rs.lens.1, hpm]
    have hst : L2.start N vs = vs.map some ++ List.replicate (N.length - ps.length) none := by
      unfold L2.start
      rw [hv]
    refine ⟨_, D cdv A outer s H E q f Z H (L2.start N vs) (ds.map some ++ List.replicate (N.length - ps.length) none) hot hr, Z, ds.map some ++ List.replicate (N.length - ps.length) none, φ, ⟨wf, Ext.refl, ?_, fun i d h1 _ h3 => ?_, fun i d _ h2 => absurd h2 ownS_no, fun i j a d e _ h1 => absurd h1 ownS_no, fun i d h1 h2 => ⟨h1, rfl⟩, fun i d h1 h2 => ?_⟩, ?_⟩
    · rw [hst]
      simp only [List.length_append, List.length_map, List.length_replicate]
      rw [hv, hl]
    · rw [hst]
      obtain ⟨b, v, e1, e2, r⟩ := args_start rs h1
      refine ⟨v, e2, ?_⟩
      cases b with
      | false => exact r
      | true =>
        refine absurd ?_ h3
        unfold ownS
        rw [List.getElem?_append_left (by rw [List.length_map]; exact (List.getElem?_eq_some_iff.mp e1).1), List.getElem?_map, e1]
        rfl
    · rw [hst]
      obtain ⟨b, v, e1, e2, r⟩ := args_start rs h1
      refine ⟨v, e2, ?_⟩
      cases b with
      | false => exact .inl r
      | true => exact r
    · unfold runB at h
      cases e : B (ds.map some ++ List.replicate (N.length - ps.length) none) φ with
      | nx ρ φ' => rw [e] at h; exact fun σ Z' H' _ R0 => h .non Z' H' R0.ext R0.wf (Res.of_flat .non rfl)
      | rt d φ' => rw [e] at h; exact fun v Z' H' e' w' r => h v Z' H' e' w' r
      | ex y l ρ φ' => rw [e] at h; exact fun cl dx σ Z' H' ow _ R0 r => h cl dx Z' H' R0.ext R0.wf r
      | bk ρ φ' => rw [e] at h; exact h.elim
      | ct ρ φ' => rw [e] at h; exact h.elim
      | bad => rw [e] at h; exact h.elim
theorem calH_of {cls : Str → Option (Addr × List Str)} {x : Str} {k : Nat} {pm : List Bool} {m : Md} {F : Fn} {f : Addr} {fd : FuncData} {ps : List Str} (h1 : mg x = some (.ref f)) (h2 : PySem.W.keepIn K (.ref f) = true) (h3 : Binds K fd ps []) (h4 : L2H.FnH P w K mg base (L2N.CX P w) k f fd ps (spF cls K pm m F)) :
    CalH P w K mg base cls x k pm m F := ⟨⟨f, fd, ps, h1, h2, h3, h4⟩⟩
end
end Pf

set_option Elab.async false
set_option linter.all false
set_option maxRecDepth 100000
set_option maxHeartbeats 4000000
namespace Pf
open PySem PySem.Spec PyProof.Rows L2
/-! ## sorted(d.items()), keys that are ints or texts -/
def rSortI (K : PySem.W.Frag) : V → Hp → VK → Prop := fun x H Q => ∃ (a : Addr) (kvs : List (Key × V)), x = V.ref a ∧ H a = some (.dK kvs) ∧
  ∀ (as : List Addr) (H1 : Hp), as.length = kvs.length → (∀ b ∈ as, H b = none) → (∀ b o, H b = some o → H1 b = some o) → (∀ (j : Nat) b kv, as[j]? = some b → kvs[j]? = some kv → H1 b = some (.tup [kV kv.1, kv.2])) →
    ∃ ps : List (V × PyData), as.map V.ref = ps.map Prod.fst ∧ (∀ p ∈ ps, Dp K H1 p.1 p.2) ∧ (∀ p ∈ ps, ∀ q ∈ ps, PySem.W.alike p.2 q.2 = true) ∧ (∀ p ∈ ps, SeqAt.shaped p.2 = true) ∧ PySem.W.Sortable (ps.map Prod.snd) ∧
      ∀ p, H1 p = none → Q (.ref p) (upd H1 p (.lst ((ps.mergeSort leP).map Prod.fst)))
theorem pairs_get {prog : Program} {w : World} : ∀ {es : List DictEntry} {vs : List (Key × Value)} {kvs : List (Key × V)}, Pairs (mixKind prog w) es vs → KV kvs vs → ∀ {j : Nat} {e : DictEntry}, es[j]? = some e → ∃ kv, kvs[j]? = some kv ∧ RelV (kV kv.1) e.key ∧ RelV kv.2 e.val
  | _, _, _, .nil, _, j, e, h => by simp at h
  | _, _, _, .cons hk hv hp, .cons hr hs, 0, e, h => by
    cases h
    obtain ⟨h1, h2⟩ := hr
    refine ⟨_, rfl, ?_, ?_⟩
    · rw [h1]
      exact relV_key hk
    · rw [hv]
      exact h2
  | _, _, _, .cons _ _ hp, .cons _ hs, j + 1, e, h => pairs_get hp hs (j := j) (by simpa using h)
theorem pairs_len {prog : Program} {w : World} : ∀ {es : List DictEntry} {vs : List (Key × Value)}, Pairs (mixKind prog w) es vs → es.length = vs.length
  | _, _, .nil => rfl
  | _, _, .cons _ _ hp => by simp [pairs_len hp]
section
variable {X : Cx} {o : Expr} {p pos apos mpos : Pos} {td : TE}
theorem pe_sortItems (hc : X.calm = true) (hu : X.A.units + 66 < cLine) (hg : Gl X "sorted") (hm : X.mg "sorted" = none) (hd : PE X o td) (hbase : attributeBase o "items" X.env (eval o X.env) = eval o X.env := by rfl) (hline : (apos.endLine == mpos.line) = true := by rfl)
    (hse : starEach [Expr.Call (.Attribute o "items" apos) [] [] mpos] X.env = [(false, eval (Expr.Call (.Attribute o "items" apos) [] [] mpos) X.env)] := by rfl) :
    PE X (.Call (.Name "sorted" p) [.Call (.Attribute o "items" apos) [] [] mpos] [] pos) (fun σ H Q => td σ H fun x H1 => rSortI X.K x H1 Q) := by
  refine ⟨fun pins s σ H Q I h => ?_⟩
  refine wpAny_Call_Name_kw (ld_blt I hg hm (u := .builtin "sorted") (by first | rfl | decide +kernel) ?_ (by first | decide +kernel | decide) (by first | decide +kernel | decide))
  rw [hse]
  refine PySem.callWith_builtin1 (wpAny_Call_method0_late hbase hline (thn (hd.run pins s σ H _ I h) fun v s1 ⟨x, H1, I1, r1, a, kvs, ex, ha, q⟩ => ?_))
  subst ex
  obtain rfl : v = Value.ref a := r1
  obtain ⟨z, hsys, vs, kv, o', es, ep, ho, hx, hdat, hks, hpr, _⟩ := dk_of I1.hok ha
  refine ⟨"dict", "dict.items", F.plainAttrs_dict, F.slot_dict_items, F.type_dict_items, ⟨o', ho, hx.1⟩, fun b e => ?_, Calls.callWith_builtin rfl (PySem.evalArgs_none ?_)⟩
  · cases e
    exact ⟨o', ho, hx.2.1⟩
  have hraw : DT.Raw s1.heap a es ep := ⟨o', ho, hx, hdat⟩
  refine call_meetsIn F.slot_dict_items ⟨o', ho, hx.1⟩ F.entry_dict_items (F.args_dict_items_1 _) (DT.meetsItems hsys) ⟨hraw, ?_⟩
  have k1 : ∀ b u, s1.heap.get? b = some u → (s1.heap.push { cls := .type "dict_items", data := .fields #[.ref a] }).get? b = some u := fun b u e => Heap.get?_push_of_some _ e
  have l1 : kvs.length = vs.length := Paired.length kv
  have l2 : es.size = vs.length := by rw [← Array.length_toList]; exact pairs_len hpr
  refine DT.sortedI (es := es) (ep := ep) (I1.ok.hd hc) ⟨_, Heap.get?_push_size _ rfl, rfl, rfl⟩ (hraw.push _) (by omega) fun h' tk as hk hlt hl hG => ?_
  have lak : as.length = kvs.length := by omega
  have nd : as.Nodup := List.Pairwise.imp (fun h => Nat.ne_of_lt h) hG.rise
  have kk : ∀ b o, s1.heap.get? b = some o → h'.get? b = some o := fun b o e => hk b o (k1 b o e)
  have big : ∀ b ∈ as, s1.heap.objs.size ≤ b := fun b hb => by
    have h1 : (s1.heap.push { cls := .type "dict_items", data := .fields #[.ref a] }).objs.size < b := hG.above b hb
    have h2 : (s1.heap.push { cls := .type "dict_items", data := .fields #[.ref a] }).objs.size = s1.heap.objs.size + 1 := Heap.size_push _ _
    rw [h2] at h1
    omega
  have pr : ∀ (j : Nat) (b : Addr), as[j]? = some b → ∃ kv0, kvs[j]? = some kv0 ∧ ∀ H2, ObjOk X.prog X.w H2 h' b (.tup [kV kv0.1, kv0.2]) := by
    intro j b hj
    obtain ⟨en, he, hgt⟩ := hG.pairs j b hj
    obtain ⟨kv0, e1, e2, e3⟩ := pairs_get hpr kv (j := j) (e := en) (by rw [Array.getElem?_toList]; exact he)
    exact ⟨kv0, e1, fun H2 => ⟨(by rw [sizeLine_eq]; show 2 ≤ 16777216; omega), [en.key, en.val], .cons e2 (.cons e3 .nil), ⟨_, hgt, rfl, 0, rfl⟩⟩⟩
  have I2 : Inv X pins σ H1 { s1 with heap := h', toks := tk } := I1.kept (t' := tk) kk
  obtain ⟨H2, I3, g, qt⟩ := L2.DX.takeT (P := fun b us => ∃ (j : Nat) (kv0 : Key × V), as[j]? = some b ∧ kvs[j]? = some kv0 ∧ us = [kV kv0.1, kv0.2]) I1 as H1 I2 nd fun b hb => by
    obtain ⟨j, hj⟩ := List.mem_iff_getElem?.mp hb
    obtain ⟨kv0, e1, ok⟩ := pr j b hj
    exact ⟨big b hb, I1.hok.fresh (big b hb), _, ⟨j, kv0, hj, e1, rfl⟩, ok⟩
  obtain ⟨ps, q1, q2, q3, q4, q5, q6⟩ := q as H2 lak (fun b hb => I1.hok.fresh (big b hb)) g fun j b kv0 hj hk0 => by
    obtain ⟨us, ⟨i, kv1, i1, i2, rfl⟩, e⟩ := qt b (List.mem_of_getElem? hj)
    have eij : j = i := (List.getElem?_inj (List.getElem?_eq_some_iff.mp hj).1 nd).mp (hj.trans i1.symm)
    subst eij
    rw [hk0] at i2
    cases i2
    exact e
  obtain ⟨its, hits⟩ : ∃ its, its = as.map Value.ref := ⟨_, rfl⟩
  have lits : its.length = kvs.length := by rw [hits, List.length_map, lak]
  have rv : Vals (ps.map Prod.fst) its := by
    rw [← q1, hits]
    exact vals_maps V.ref Value.ref as fun _ _ => rfl
  have e0 : PySem.W.EachIs (fun v (b : V × PyData) => RelV b.1 v) its ps := vals_each rv
  have old : ∀ b o, h'.get? b = some o → b ≠ h'.objs.size ∧ (h'.push (seqObj "list" its.toArray 0)).get? b = some o := fun b o e => ⟨Nat.ne_of_lt (Heap.lt_size e), Heap.get?_push_of_some _ e⟩
  have keep : ∀ b o, h'.get? b = some o → (PySem.W.sortingHeap (h'.push (seqObj "list" its.toArray 0)) h'.objs.size its).get? b = some o := fun b o e => PySem.W.sortingHeap_old (old b o e).1 (old b o e).2
  have e1 : PySem.W.EachIs (fun v (b : V × PyData) => RelV b.1 v ∧ ∃ as, Reads (PySem.W.sortingHeap (h'.push (seqObj "list" its.toArray 0)) h'.objs.size its) v b.2 as) its ps :=
    each_mono e0 fun v b hb rb => by
      obtain ⟨as, ra⟩ := Dp.reads I3 b.2 b.1 v (q2 b hb) rb
      exact ⟨rb, as, PyProof.Rows.Reads.keeps keep ra⟩
  have e2 := each_map (R := fun v d => ∃ as, Reads (PySem.W.sortingHeap (h'.push (seqObj "list" its.toArray 0)) h'.objs.size its) v d as) Prod.snd (each_mono e1 fun _ _ _ q => q.2)
  have hAll : PySem.W.AllAlike (ps.map Prod.snd) := fun d h1 d' h2 => by
    obtain ⟨p, hp, rfl⟩ := List.mem_map.mp h1
    obtain ⟨p', hp', rfl⟩ := List.mem_map.mp h2
    exact q3 p hp p' hp'
  have S := PySem.W.SortsAt.data (prog := X.prog) (w := X.w) (A := X.A.in1.in1) (s := { s1 with heap := PySem.W.sortingHeap (h'.push (seqObj "list" its.toArray 0)) h'.objs.size its, toks := tk }) e2 hAll q5 fun d h1 => by
    obtain ⟨p, hp, rfl⟩ := List.mem_map.mp h1
    have := SeqAt.depth_of_shaped (q4 p hp)
    show X.A.units + 1 + 1 + _ < cLine
    omega
  have ho2 : (h'.push (seqObj "list" its.toArray 0)).get? h'.objs.size = some (seqObj "list" its.toArray 0) := Heap.get?_push_size _ rfl
  obtain ⟨en, he'⟩ := sortedHeap_at (out := (PySem.W.sortVals (PySem.W.dataKind (PySem.W.sortingHeap (h'.push (seqObj "list" its.toArray 0)) h'.objs.size its) (ps.map Prod.snd)) false its its).toArray) ho2
  have kk2 : PySem.W.EachIs (fun v (b : V × PyData) => (PySem.W.dataKind (PySem.W.sortingHeap (h'.push (seqObj "list" its.toArray 0)) h'.objs.size its) (ps.map Prod.snd)).keyOf v = some (PySem.W.keyToks b.2)) its ps :=
    each_mono e1 fun v b hb ⟨_, as, ra⟩ => PySem.W.dataKind_some hAll (List.mem_map.mpr ⟨b, hb, rfl⟩) ra
  have out := PySem.W.sortVals_each (κ := PySem.W.dataKind (PySem.W.sortingHeap (h'.push (seqObj "list" its.toArray 0)) h'.objs.size its) (ps.map Prod.snd)) (rev := false) (fun b : V × PyData => PySem.W.keyToks b.2) e0 kk2
  have hle : PySem.W.sortLe (listOrd itemOrd) false (fun b : V × PyData => PySem.W.keyToks b.2) = leP := rfl
  have out' : Vals ((ps.mergeSort leP).map Prod.fst) (PySem.W.sortVals (PySem.W.dataKind (PySem.W.sortingHeap (h'.push (seqObj "list" its.toArray 0)) h'.objs.size its) (ps.map Prod.snd)) false its its) := each_vals out
  have hlen : ((ps.mergeSort leP).map Prod.fst).length ≤ sizeLine := by
    rw [List.length_map, (List.mergeSort_perm _ _).length_eq]
    have := rv.length
    rw [List.length_map] at this
    omega
  rw [← hits]
  show wpAny _ _ _ _ _ { s1 with heap := h'.push (seqObj "list" its.toArray 0), toks := tk }
  refine wpAny_call_entry PyProof.Rows.slot_list_sort ⟨_, ho2, rfl⟩ PyProof.Rows.entry_list_sort ?body (PyProof.Rows.args_list_sort _)
  case body =>
    refine PySem.W.list_sort_vals (s := { s1 with heap := h'.push (seqObj "list" its.toArray 0), toks := tk }) ho2 S (by omega) ⟨_, rfl, ?_⟩
    exact ⟨.ref _, upd H2 h'.objs.size (.lst ((ps.mergeSort leP).map Prod.fst)), I3.laid (t' := tk) (fun b o e => sortedHeap_old (old b o e).1 (Heap.lt_size (old b o e).2) |>.trans (old b o e).2) (Nat.le_refl _) ⟨hlen, _, en, out', he'⟩, rfl, q6 _ (I3.hok.fresh (Nat.le_refl _))⟩
end
end Pf

set_option Elab.async false
set_option linter.all false
set_option maxRecDepth 100000
set_option maxHeartbeats 4000000
namespace Pf
open PySem PySem.Spec PyProof.Rows L2
def kD : Key → D
  | .inl i => .int i
  | .inr x => .str x
def itmD (kv : Key × D) : D := .tup [kD kv.1, kv.2]
noncomputable def eSortI (A : SX) : SX := fun ρ φ => (A ρ φ).bind fun d φ1 => match d with
  | .dk l => ofO (gSorted [.lst (l.map itmD)]) φ1
  | _ => .bad
theorem rep_key {K : PySem.W.Frag} {f : Addr} {Z : Hp} : ∀ k : Key, Rep K f Z (kV k) (kD k)
  | .inl i => .int i
  | .inr x => .str x
theorem reps_items {K : PySem.W.Frag} {f : Addr} {Z Z2 : Hp} (hz : ∀ a o, Z a = some o → Z2 a = some o) : ∀ {as : List Addr} {kvs : List (Key × V)} {l : List (Key × D)}, KReps K f Z kvs l → as.length = kvs.length → (∀ (j : Nat) b kv, as[j]? = some b → kvs[j]? = some kv → Z2 b = some (.tup [kV kv.1, kv.2])) → Reps K f Z2 (as.map V.ref) (l.map itmD)
  | [], _, _, .nil, _, _ => .nil
  | _ :: _, _, _, .nil, h, _ => by cases h
  | [], _, _, .cons _ _, h, _ => by cases h
  | b :: as, _, _, .cons (k := k) (v := v) r rs, hl, h =>
    .cons (.tup (.inl (.inl (h 0 b (k, v) rfl rfl))) (.cons (rep_key k) (.cons (r.mono hz) .nil))) (reps_items hz rs (Nat.succ.inj hl) fun j c kv h1 h2 => h (j + 1) c kv h1 h2)
section
variable {X : Cx} {c : Ct} {own : List Ms} {W : WX} {pos p apos mpos : Pos} {a : Expr} {A : SX}
theorem x_sortI (hK : X.K = c.K) (hc : X.calm = true) (hu : X.A.units + 66 < cLine) (hm : X.mg "sorted" = none) (ha : EX X c own .p W a A) (hg : Gl X "sorted" := by rfl) (hbase : attributeBase a "items" X.env (eval a X.env) = eval a X.env := by rfl) (hline : (apos.endLine == mpos.line) = true := by rfl)
    (hse : starEach [Expr.Call (.Attribute a "items" apos) [] [] mpos] X.env = [(false, eval (Expr.Call (.Attribute a "items" apos) [] [] mpos) X.env)] := by rfl) :
    EX X c own .o W (.Call (.Name "sorted" p) [.Call (.Attribute a "items" apos) [] [] mpos] [] pos) (eSortI A) := by
  refine PE.weak (pe_sortItems hc hu hg hm ha hbase hline hse) ?_
  rintro σ H Q ⟨Z, ρ, φ, R, h⟩
  refine ⟨Z, ρ, φ, R, Post.bindE h fun d φ1 x Z1 H1 e1 w1 r1 h1 => ?_⟩
  cases d with
  | dk l =>
    obtain ⟨b, kvs, rfl, hb, rk⟩ := (show Res .p c.K c.f H1 Z1 H1 x (.dk l) from r1).dk w1
    obtain ⟨z, hz, h3⟩ := ofO_ok (E := fun o => Post c .o W o σ Z1 H1 Q) h1 fun z => z
    have hg' : (if okSort (l.map itmD) then some (D.lst (sortD (l.map itmD))) else none) = some z := hz
    obtain ⟨ok, rfl⟩ := ifs hg'
    rw [hK]
    refine ⟨b, kvs, rfl, hb, fun as H2 hl hn hs ht => ?_⟩
    have nas : ∀ x, H1 x ≠ none → x ∉ as := fun x hx hm => hx (hn x hm)
    have sub : ∀ x o, Z1 x = some o → H1 x ≠ none := fun x o q => by rw [w1.sub x o q]; simp
    obtain ⟨Z2, hZ2⟩ : ∃ Z2 : Hp, Z2 = fun x => if x ∈ as then H2 x else Z1 x := ⟨_, rfl⟩
    have zin : ∀ x, x ∈ as → Z2 x = H2 x := fun x hx => by rw [hZ2]; exact if_pos hx
    have zout : ∀ x, x ∉ as → Z2 x = Z1 x := fun x hx => by rw [hZ2]; exact if_neg hx
    have zz : ∀ x o, Z1 x = some o → Z2 x = some o := fun x o q => by rw [zout x (nas x (sub x o q))]; exact q
    have e2 : Ext c.f Z1 H1 Z2 H2 := ⟨zz, fun x o _ q => hs x o q, fun x hx => by
      cases e : H1 x with
      | none => exact absurd e hx
      | some u => rw [hs x u e]; simp, fun x hx q => by rw [zout x (nas x hx)]; exact q, fun o q => ⟨o, hs _ _ q, .inl rfl⟩⟩
    have w2 : Wf c.K c.f Z2 H2 φ1 := by
      refine ⟨fun x o q => ?_, ?_, ?_, w1.ok⟩
      · by_cases hx : x ∈ as
        · rw [zin x hx] at q; exact q
        · rw [zout x hx] at q; exact hs x o (w1.sub x o q)
      · rw [zout c.f (nas c.f w1.hf)]
        exact w1.zf
      · obtain ⟨s, q1, q2⟩ := w1.feed
        exact ⟨s, q1.mono zz, hs _ _ q2⟩
    refine sorted_coreV w2 (reps_items zz rk hl fun j c' kv h1 h2 => ?_) ok (h3.shift e2)
    rw [zin c' (List.mem_of_getElem? h1)]
    exact ht j c' kv h1 h2
  | _ => exact h1.elim
end
end Pf
namespace Pf
open PySem PySem.Spec PyProof.Rows L2
theorem roomMark {k : Nat} {A : Around} (r : Room k A) (h : Option Value) : L2H.RoomH k (A.mark h) := ⟨r.dp, r.un⟩
end Pf

set_option Elab.async false
set_option linter.all false
set_option maxRecDepth 100000
set_option maxHeartbeats 4000000
namespace Pf
open PySem PySem.Spec PyProof.Rows L2

/-! ## l.pop(e), l an own list -/
def popD (l : List D) : D → Option (D × List D)
  | .int z => if -9223372036854775808 ≤ z ∧ z < 9223372036854775808 then (match seqIndex? z l.length with
    | some j => (l[j]?).map fun y => (y, l.eraseIdx j)
    | none => none) else none
  | _ => none
theorem popD_some {l l' : List D} {e y : D} (h : popD l e = some (y, l')) : ∃ z j, e = .int z ∧ -(2 ^ 63) ≤ z ∧ z < 2 ^ 63 ∧ seqIndex? z l.length = some j ∧ l[j]? = some y ∧ l' = l.eraseIdx j := by
  unfold popD at h
  split at h
  · rename_i z
    split at h
    · rename_i hz
      split at h
      · rename_i j hj
        obtain ⟨y', h1, h2⟩ := Option.map_eq_some_iff.mp h
        cases h2
        exact ⟨z, j, rfl, by omega, by omega, hj, h1, rfl⟩
      · cases h
    · cases h
  · cases h
/-- y = l.pop(e) -/
def sPopS (i j : Nat) (A : SX) : SS := fun ρ φ => match ρ[i]? with
  | some (some (.lst l)) => (A ρ φ).toR ρ fun e φ1 => (match popD l e with | some (y, l') => .nx ((ρ.set i (some (.lst l'))).set j (some y)) φ1 | none => .bad)
  | _ => .bad
/-- y.append(l.pop(e)) -/
def sPopA (i j : Nat) (A : SX) : SS := fun ρ φ => match ρ[i]?, ρ[j]? with
  | some (some (.lst m)), some (some (.lst l)) => (A ρ φ).toR ρ fun e φ1 => (match popD l e with | some (y, l') => if m.length < sizeLine then .nx ((ρ.set j (some (.lst l'))).set i (some (.lst (m ++ [y])))) φ1 else .bad | none => .bad)
  | _, _ => .bad
section
variable {X : Cx} {c : Ct} {w : Ow} {own : List Ms}
theorem s_popS (i j : Nat) {x y : Str} {e : Expr} {A : SX} {p py apos cpos pos2 : Pos} (hNd : X.N.Nodup) (ha : EX X c own .p w.W e A) (hw : own[i]? = some .o := by rfl) (hN : X.N[i]? = some x := by rfl) (hNj : X.N[j]? = some y := by rfl) (hv : Vis X.env.scope x := by first | exact Or.inl rfl | exact Or.inr (Or.inl rfl) | exact Or.inr (Or.inr rfl))
    (hy : Loc X.env.scope y := by first | exact Or.inl rfl | exact Or.inr rfl)
    (hd : (x == ("__debug__" : Str)) = false := by decide) (hcd : (x == ("__classdict__" : Str)) = false := by decide)
    (hbase : attributeBase (.Name x p) "pop" X.env (eval (.Name x p) X.env) = eval (.Name x p) X.env := by rfl)
    (hfew : ((backTo cpos (starEach [e] X.env)).all (fun x => !x.1) && (backToKw cpos (keywordEach [] X.env)).all (fun x => x.1.isSome) && decide ([e].length + ([] : List Keyword).length + (if ([] : List Keyword).isEmpty then 0 else 1) < 30)) = true := by rfl)
    (hline : (apos.endLine == cpos.line) = true := by rfl) (hse : starEach [e] X.env = (false, eval e X.env) :: starEach [] X.env := by rfl) (hplain : (backTo cpos (starEach [] X.env)).any (·.1) = false := by rfl)
    (hs : swapsWith (.Call (.Attribute (.Name x p) "pop" apos) [e] [] cpos) (some (.Name y py)) pos2.line X.env = pure false := by rfl) (hf : X.fn y = true ∨ X.env.scope.names.lookup y = some .local := by first | exact .inl rfl | exact .inr rfl) (ho : w.ox own := by first | exact trivial | rfl) :
    SJ X c w own (own.set j .s) (.Assign [.Name y py] (.Call (.Attribute (.Name x p) "pop" apos) [e] [] cpos) pos2) (sPopS i j A) := by
  refine PS.weak (ps_set hNd hNj hy (pe_bm PySem.F.plainAttrs_list PySem.F.slot_list_pop PySem.F.type_list_pop mt_popAt (pe_var hN hv hd hcd) (pa_cons ha pa_nil hse) hbase hfew hline hse hplain) hs hf) ?_
  rintro Dn σ H ⟨Z, ρ, φ, R0, h⟩
  unfold sPopS at h
  split at h
  · rename_i l hdd
    obtain ⟨a, vs, hav, hH, rs, hz⟩ := R0.cell hw hdd
    refine ⟨.ref a, hav, .inl ⟨rfl, vs, .inl (.inl hH)⟩, Z, ρ, φ, R0, Post.toS (w := w) ho R0 h fun d φ1 v Z1 H1 e1 w1 r1 h1 => ?_⟩
    split at h1
    · rename_i y' l' hg
      obtain ⟨z, k, rfl, z0, z1, hk, hy', rfl⟩ := popD_some hg
      have R1 := R0.more e1 w1
      obtain ⟨b, us, hb, hH1, rs1, hz1⟩ := Rl.cell R1 hw hdd
      rw [hav] at hb
      cases hb
      obtain ⟨yv, hyv, ry⟩ := rs1.get hy'
      exact ⟨a, us, z, k, yv, rfl, by rw [r1.int], hH1, z0, z1, by rw [rs1.length]; exact hk, hyv, h1 _ Z1 _ Sub.refl ((R1.write hw hdd rfl hav (.lst (rs1.erase k))).setS ry)⟩
    · exact h1.elim
  · exact h.elim
theorem s_popA (i j : Nat) {x y : Str} {e : Expr} {A : SX} {p py apos cpos bpos dpos pos2 : Pos} (ha : EX X c own .p w.W e A) (hij : i ≠ j := by decide) (hwi : own[i]? = some .o := by rfl) (hw : own[j]? = some .o := by rfl) (hNi : X.N[i]? = some y := by rfl) (hN : X.N[j]? = some x := by rfl)
    (hv : Vis X.env.scope x := by first | exact Or.inl rfl | exact Or.inr (Or.inl rfl) | exact Or.inr (Or.inr rfl)) (hvy : Vis X.env.scope y := by first | exact Or.inl rfl | exact Or.inr (Or.inl rfl) | exact Or.inr (Or.inr rfl))
    (hd : (x == ("__debug__" : Str)) = false := by decide) (hcd : (x == ("__classdict__" : Str)) = false := by decide) (hdy : (y == ("__debug__" : Str)) = false := by decide) (hcdy : (y == ("__classdict__" : Str)) = false := by decide)
    (hbase : attributeBase (.Name x p) "pop" X.env (eval (.Name x p) X.env) = eval (.Name x p) X.env := by rfl)
    (hfew : ((backTo cpos (starEach [e] X.env)).all (fun x => !x.1) && (backToKw cpos (keywordEach [] X.env)).all (fun x => x.1.isSome) && decide ([e].length + ([] : List Keyword).length + (if ([] : List Keyword).isEmpty then 0 else 1) < 30)) = true := by rfl)
    (hline : (apos.endLine == cpos.line) = true := by rfl) (hse : starEach [e] X.env = (false, eval e X.env) :: starEach [] X.env := by rfl) (hplain : (backTo cpos (starEach [] X.env)).any (·.1) = false := by rfl)
    (hbase2 : attributeBase (.Name y py) "append" X.env (eval (.Name y py) X.env) = eval (.Name y py) X.env := by rfl)
    (hfew2 : ((backTo dpos (starEach [.Call (.Attribute (.Name x p) "pop" apos) [e] [] cpos] X.env)).all (fun x => !x.1) && (backToKw dpos (keywordEach [] X.env)).all (fun x => x.1.isSome) && decide ([Expr.Call (.Attribute (.Name x p) "pop" apos) [e] [] cpos].length + ([] : List Keyword).length + (if ([] : List Keyword).isEmpty then 0 else 1) < 30)) = true := by rfl)
    (hline2 : (bpos.endLine == dpos.line) = true := by rfl) (hse2 : starEach [.Call (.Attribute (.Name x p) "pop" apos) [e] [] cpos] X.env = (false, eval (.Call (.Attribute (.Name x p) "pop" apos) [e] [] cpos) X.env) :: starEach [] X.env := by rfl) (hplain2 : (backTo dpos (starEach [] X.env)).any (·.1) = false := by rfl)
    (hs : swapsWith (.Call (.Attribute (.Name y py) "append" bpos) [.Call (.Attribute (.Name x p) "pop" apos) [e] [] cpos] [] dpos) none pos2.line X.env = pure false := by rfl) (ho : w.ox own := by first | exact trivial | rfl) :
    SJ X c w own own (.Expr (.Call (.Attribute (.Name y py) "append" bpos) [.Call (.Attribute (.Name x p) "pop" apos) [e] [] cpos] [] dpos) pos2) (sPopA i j A) := by
  refine PS.weak (ps_expr (pe_bm PySem.F.plainAttrs_list PySem.F.slot_list_append PySem.F.type_list_append mt_append (pe_var hNi hvy hdy hcdy) (pa_cons (pe_bm PySem.F.plainAttrs_list PySem.F.slot_list_pop PySem.F.type_list_pop mt_popAt (pe_var hN hv hd hcd) (pa_cons ha pa_nil hse) hbase hfew hline hse hplain) pa_nil hse2) hbase2 hfew2 hline2 hse2 hplain2) hs) ?_
  rintro Dn σ H ⟨Z, ρ, φ, R0, h⟩
  unfold sPopA at h
  split at h
  · rename_i m l hm hdd
    obtain ⟨a, vs, hav, hH, rs, hz⟩ := R0.cell hw hdd
    obtain ⟨b, us, hbv, hHb, rb, hzb⟩ := R0.cell hwi hm
    refine ⟨.ref b, hbv, .inl ⟨rfl, us, .inl (.inl hHb)⟩, .ref a, hav, .inl ⟨rfl, vs, .inl (.inl hH)⟩, Z, ρ, φ, R0, Post.toS (w := w) ho R0 h fun d φ1 v Z1 H1 e1 w1 r1 h1 => ?_⟩
    split at h1
    · rename_i y' l' hg
      obtain ⟨z, k, rfl, z0, z1, hk, hy', rfl⟩ := popD_some hg
      have h1' : PostS c w own (if m.length < sizeLine then R.nx ((ρ.set j (some (.lst (l.eraseIdx k)))).set i (some (.lst (m ++ [y'])))) φ1 else .bad) Dn Z1 := h1
      by_cases hl : m.length < sizeLine
      · rw [if_pos hl] at h1'
        have R1 := R0.more e1 w1
        obtain ⟨a', vs1, ha', hH1, rs1, hz1⟩ := Rl.cell R1 hw hdd
        rw [hav] at ha'
        cases ha'
        obtain ⟨yv, hyv, ry⟩ := rs1.get hy'
        have R2 := R1.write hw hdd rfl hav (.lst (rs1.erase k))
        have hm2 : (ρ.set j (some (D.lst (l.eraseIdx k))))[i]? = some (some (.lst m)) := by rw [List.getElem?_set_ne (Ne.symm hij)]; exact hm
        obtain ⟨b', us2, hb', hH2, rb2, hz2⟩ := Rl.cell R2 hwi hm2
        rw [hbv] at hb'
        cases hb'
        refine ⟨a, vs1, z, k, yv, rfl, by rw [r1.int], hH1, z0, z1, by rw [rs1.length]; exact hk, hyv, ?_⟩
        exact ⟨b, us2, yv, rfl, rfl, hH2, by rw [rb2.length]; exact hl, h1' σ Z1 _ Sub.refl (R2.write hwi hm2 rfl hbv (.lst (rb2.app (.cons ry .nil))))⟩
      · rw [if_neg hl] at h1'
        exact h1'.elim
    · exact h1.elim
  · exact h.elim
end
end Pf

set_option Elab.async false
set_option linter.all false
set_option maxRecDepth 100000
set_option maxHeartbeats 4000000
namespace Pf
open PySem PySem.Spec PyProof.Rows L2

/-! ## a part of a body as a body of its own, what it makes is kept -/
def ownKeep (own own1 : List Ms) : List Ms := own.mapIdx fun i m => if Ms.pin own1[i]? = true then m else own1.getD i .s
theorem Rl.leaveK {c : Ct} {own own1 : List Ms} {Z0 Z1 : Hp} {ρ0 ρ1 : En} {φ0 φ1 : Fd} {σ0 σ1 : L2.St} {H0 H1 : Hp} (hl : own1.length = own.length) (R0 : Rl c own Z0 ρ0 φ0 σ0 H0) (R1 : Rl (subC c Z0 ρ0 σ0 H0) own1 Z1 ρ1 φ1 σ1 H1) :
    Rl c (ownKeep own own1) Z1 ρ1 φ1 σ1 H1 := by
  have ex : Ext c.f Z0 H0 Z1 H1 := R1.ext
  have RM := R0.more ex R1.wf
  have getO : ∀ {i : Nat} {x : Ms}, (ownKeep own own1)[i]? = some x → (Ms.pin own1[i]? = true ∧ own[i]? = some x) ∨ (Ms.pin own1[i]? = false ∧ own1[i]? = some x) := fun {i x} h => by
    unfold ownKeep at h
    rw [List.getElem?_mapIdx] at h
    cases e : own[i]? with
    | none => rw [e] at h; cases h
    | some y =>
      rw [e] at h
      have h' : (if Ms.pin own1[i]? = true then y else own1.getD i .s) = x := Option.some.inj h
      by_cases hp : Ms.pin own1[i]? = true
      · rw [if_pos hp] at h'; exact .inl ⟨hp, by rw [h']⟩
      · rw [if_neg hp] at h'
        refine .inr ⟨by simpa using hp, ?_⟩
        have hi : i < own1.length := by rw [hl]; exact (List.getElem?_eq_some_iff.mp e).1
        rw [List.getD_eq_getElem?_getD, List.getElem?_eq_getElem hi] at h'
        rw [List.getElem?_eq_getElem hi, ← h']
        rfl
  have putO : ∀ {i : Nat} {x : Ms}, Ms.pin own1[i]? = true → own[i]? = some x → (ownKeep own own1)[i]? = some x := fun {i x} hp h => by
    unfold ownKeep
    rw [List.getElem?_mapIdx, h]
    show some (if Ms.pin own1[i]? = true then x else own1.getD i .s) = some x
    rw [if_pos hp]
  have putN : ∀ {i : Nat} {x : Ms}, Ms.pin own1[i]? = false → own1[i]? = some x → (ownKeep own own1)[i]? = some x := fun {i x} hp h => by
    have hi : i < own.length := by rw [← hl]; exact (List.getElem?_eq_some_iff.mp h).1
    unfold ownKeep
    rw [List.getElem?_mapIdx, List.getElem?_eq_getElem hi]
    show some (if Ms.pin own1[i]? = true then own[i] else own1.getD i .s) = some x
    rw [if_neg (by rw [hp]; decide), List.getD_eq_getElem?_getD, h]
    rfl
  have pins : ∀ {i : Nat} {d : D}, Ms.pin own1[i]? = true → ρ1[i]? = some (some d) → ρ0[i]? = some (some d) ∧ σ1[i]? = σ0[i]? := fun {i d} hp h => R1.pn i d h (pin_iff.mp hp)
  have bp : ∀ (i : Nat), Ms.pin own1[i]? = true ∨ Ms.pin own1[i]? = false := fun i => by cases Ms.pin own1[i]? <;> simp
  have fresh : ∀ {v : V} {d : D}, Res .o c.K c.f H0 Z1 H1 v d → Res .o c.K c.f c.H Z1 H1 v d := fun r => r.start R0.ext.k
  refine ⟨R1.wf, R0.ext.trans ex, R1.len, fun i d h1 h2 h3 => ?_, fun i d h1 h2 => ?_, fun i j a d e hij h1 h2 h3 h4 h5 h6 h7 h8 => ?_, fun i d h1 h2 => ?_, fun i d h1 h2 => ?_⟩
  · rcases bp i with hp | hp
    · obtain ⟨k1, k2⟩ := pins hp h1
      obtain ⟨v, hv, r⟩ := RM.sh i d k1 (fun e => h2 (putO hp e)) (fun e => h3 (putO hp e))
      exact ⟨v, by rw [k2]; exact hv, r⟩
    · exact R1.sh i d h1 (fun e => h2 (putN hp e)) (fun e => by rw [e] at hp; cases hp)
  · rcases getO h2 with ⟨hp, ho⟩ | ⟨_, ho⟩
    · obtain ⟨k1, k2⟩ := pins hp h1
      obtain ⟨v, hv, r⟩ := RM.ow i d k1 ho
      exact ⟨v, by rw [k2]; exact hv, r⟩
    · obtain ⟨v, hv, r⟩ := R1.ow i d h1 ho
      exact ⟨v, hv, fresh r⟩
  · -- two own ones
    have old : ∀ {i : Nat} {d : D}, Ms.pin own1[i]? = true → own[i]? = some .o → ρ1[i]? = some (some d) → d.mt = true → ∀ a, σ1[i]? = some (some (.ref a)) → H0 a ≠ none := fun {i d} hp ho h hm a ha => by
      obtain ⟨k1, k2⟩ := pins hp h
      obtain ⟨v, hv, r⟩ := R0.ow i d k1 ho
      rw [k2, hv] at ha
      cases ha
      unfold Res at r
      rw [if_pos hm] at r
      obtain ⟨b, o, e, _, _, _, hb, _⟩ := r
      cases e
      rw [hb]
      simp
    have new : ∀ {i : Nat} {d : D}, own1[i]? = some .o → ρ1[i]? = some (some d) → d.mt = true → ∀ a, σ1[i]? = some (some (.ref a)) → H0 a = none := fun {i d} ho h hm a ha => by
      obtain ⟨v, hv, r⟩ := R1.ow i d h ho
      rw [hv] at ha
      cases ha
      unfold Res at r
      rw [if_pos hm] at r
      obtain ⟨b, o, e, hn, _⟩ := r
      cases e
      exact hn
    rcases getO h1 with ⟨hp, ho⟩ | ⟨_, ho⟩ <;> rcases getO h2 with ⟨hp', ho'⟩ | ⟨_, ho'⟩
    · obtain ⟨k1, k2⟩ := pins hp h3
      obtain ⟨k3, k4⟩ := pins hp' h5
      rw [k2] at h7
      rw [k4] at h8
      exact R0.ne i j a d e hij ho ho' k1 h4 k3 h6 h7 h8
    · exact old hp ho h3 h4 a h7 (new ho' h5 h6 a h8)
    · exact old hp' ho' h5 h6 a h8 (new ho h3 h4 a h7)
    · exact R1.ne i j a d e hij ho ho' h3 h4 h5 h6 h7 h8
  · have hh : Ms.pin own1[i]? = true ∧ (own[i]? = some .p ∨ own[i]? = some .r) := by
      rcases h2 with h2 | h2 <;> rcases getO h2 with ⟨hp, ho⟩ | ⟨hp, ho⟩
      · exact ⟨hp, .inl ho⟩
      · rw [ho] at hp; cases hp
      · exact ⟨hp, .inr ho⟩
      · rw [ho] at hp; cases hp
    obtain ⟨k1, k2⟩ := pins hh.1 h1
    obtain ⟨n1, n2⟩ := R0.pn i d k1 hh.2
    exact ⟨n1, by rw [k2]; exact n2⟩
  · rcases getO h2 with ⟨hp, ho⟩ | ⟨hp, ho⟩
    · obtain ⟨k1, k2⟩ := pins hp h1
      obtain ⟨v, hv, r⟩ := R0.pk i d k1 ho
      exact ⟨v, by rw [k2]; exact hv, r⟩
    · rw [ho] at hp; cases hp
def sKeep (A B : SS) : SS := fun ρ φ => match A ρ φ with
  | .nx ρ1 φ1 => B ρ1 φ1
  | .rt d φ1 => .rt d φ1
  | _ => .bad
section
variable {X : Cx} {c : Ct} {w : Ow} {own own1 on : List Ms}
theorem s_keep (n : Nat) {sts : List Stmt} {A B : SS} (hl : own1.length = own.length) (h1 : ∀ (Z : Hp) (ρ : En) (σ : L2.St) (H : Hp), SJs X (subC c Z ρ σ H) ⟨w.m, W0, fun _ => True, []⟩ (ownIn own) own1 (sts.take n) A) (h2 : SJs X c w (ownKeep own own1) on (sts.drop n) B) :
    SJs X c w own on sts (sKeep A B) := by
  have D1 := PSs.later (ι := Hp × En × L2.St × Hp) fun i => h1 i.1 i.2.1 i.2.2.1 i.2.2.2
  have D2 := pss_app D1 h2
  rw [List.take_append_drop] at D2
  refine PSs.weak D2 ?_
  rintro Dn σ H ⟨Z, ρ, φ, R0, h⟩
  refine ⟨(Z, ρ, σ, H), Z, ρ, φ, R0.enter, ?_⟩
  unfold sKeep at h
  cases hA : A ρ φ with
  | nx ρ1 φ1 =>
    rw [hA] at h
    intro σ1 Z1 H1 k R1
    exact ⟨Z1, ρ1, φ1, R0.leaveK hl R1, PostS.shift (show PostS c w on (B ρ1 φ1) Dn Z from h) k⟩
  | rt d φ1 =>
    rw [hA] at h
    intro v Z' H' e' w' r
    exact h v Z' H' (R0.ext.trans e') w' (Res.start r R0.ext.k)
  | bk _ _ => rw [hA] at h; exact h.elim
  | ct _ _ => rw [hA] at h; exact h.elim
  | ex _ _ _ _ => rw [hA] at h; exact h.elim
  | bad => rw [hA] at h; exact h.elim
theorem keep_nx {A B : SS} {ρ ρ1 : En} {φ φ1 : Fd} {r : R} (h1 : A ρ φ = .nx ρ1 φ1) (h2 : B ρ1 φ1 = r) : sKeep A B ρ φ = r := by unfold sKeep; rw [h1]; exact h2
theorem keep_rt {A B : SS} {ρ : En} {φ φ1 : Fd} {d : D} (h1 : A ρ φ = .rt d φ1) : sKeep A B ρ φ = .rt d φ1 := by unfold sKeep; rw [h1]
end
end Pf

set_option Elab.async false
set_option linter.all false
set_option maxRecDepth 100000
set_option maxHeartbeats 4000000
namespace Pf
open PySem PySem.Spec PyProof.Rows L2
def topS (i : Nat) : Stmt := PySem.Challenge.pw_eightroots_k30_whole_lines_at_one_angle.main.body.getD i (.Pass ⟨0, 0, 0, 0⟩)
abbrev s_row_product : Stmt := topS 2
theorem sc_row_product : FnScope ["one", "other", "a", "b"] ["one", "other"] (defScope s_row_product) := ⟨rfl, rfl, rfl, by decide +kernel, rfl, by decide +kernel, by decide +kernel⟩
def B_row_product : SS := (sSeq (sRet (eBin gDiv (eCB gSum (aCons (eLc (iZp (aCons (eVar 0) (aCons (eVar 1) aNil))) (tgT 2 (tsCons (tgN 2) (tsCons (tgN 3) tsNil))) bYes (eBin gMul (eVar 2) (eVar 3)) [2, 3]) aNil)) (eInt 4))) sNil)
def F_row_product : Fn := runB B_row_product 2 4
abbrev s_row_less : Stmt := topS 3
theorem sc_row_less : FnScope ["one", "other", "a", "b"] ["one", "other"] (defScope s_row_less) := ⟨rfl, rfl, rfl, by decide +kernel, rfl, by decide +kernel, by decide +kernel⟩
def B_row_less : SS := (sSeq (sRet (eLc (iZp (aCons (eVar 0) (aCons (eVar 1) aNil))) (tgT 2 (tsCons (tgN 2) (tsCons (tgN 3) tsNil))) bYes (eBin gSub (eVar 2) (eVar 3)) [2, 3])) sNil)
def F_row_less : Fn := runB B_row_less 2 4
abbrev s_even_roots : Stmt := topS 4
theorem sc_even_roots : FnScope ["found", "j", "i", "a", "b", "root"] [] (defScope s_even_roots) := ⟨rfl, rfl, rfl, by decide +kernel, rfl, by decide +kernel, by decide +kernel⟩
def B_even_roots : SS := (sSeq (sSet 0 (eLst aNil)) (sSeq (sFor (iRg1 (aCons (eInt 8) aNil)) (tgN 1) (sSeq (sFor (iRg1 (aCons (eVar 1) aNil)) (tgN 2) (sSeq (sFor (iSeq (eTup (aCons (eTup (aCons (eInt 2) (aCons (eInt 2) aNil))) (aCons (eTup (aCons (eInt 2) (aCons (eUn gNeg (eInt 2)) aNil))) (aCons (eTup (aCons (eUn gNeg (eInt 2)) (aCons (eInt 2) aNil))) (aCons (eTup (aCons (eUn gNeg (eInt 2)) (aCons (eUn gNeg (eInt 2)) aNil))) aNil)))))) (tgT 2 (tsCons (tgN 3) (tsCons (tgN 4) tsNil))) (sSeq (sSet 5 (eBin gMul (eLst (aCons (eInt 0) aNil)) (eInt 8))) (sSeq (sPut 5 (eVar 3) (eVar 2)) (sSeq (sPut 5 (eVar 4) (eVar 1)) (sSeq (sMut 0 gApp (eVar 5)) sNil))))) sNil)) sNil)) (sSeq (sRet (eVar 0)) sNil)))
def F_even_roots : Fn := runB B_even_roots 0 6
abbrev s_odd_roots : Stmt := topS 5
theorem sc_odd_roots : FnScope ["found", "_", "row", "sign"] [] (defScope s_odd_roots) := ⟨rfl, rfl, rfl, by decide +kernel, rfl, by decide +kernel, by decide +kernel⟩
def B_odd_roots : SS := (sSeq (sSet 0 (eLst (aCons (eLst aNil) aNil))) (sSeq (sFor (iRg1 (aCons (eInt 8) aNil)) (tgN 1) (sSeq (sSet 0 (eLc2 (iSeq (eVar 0)) (tgN 2) bYes (iSeq (eTup (aCons (eUn gNeg (eInt 1)) (aCons (eInt 1) aNil)))) (tgN 3) bYes (eBin gAdd (eVar 2) (eLst (aCons (eVar 3) aNil))) [2, 3] [3])) sNil)) (sSeq (sRet (eLc (iSeq (eVar 0)) (tgN 2) (bCmp gEq (eBin gMod (eCB gSum (aCons (eVar 2) aNil)) (eInt 4)) (eInt 0)) (eVar 2) [2])) sNil)))
def F_odd_roots : Fn := runB B_odd_roots 0 4
abbrev s_all_roots : Stmt := topS 6
theorem sc_all_roots : FnScope [] [] (defScope s_all_roots) := ⟨rfl, rfl, rfl, by decide +kernel, rfl, by decide +kernel, by decide +kernel⟩
noncomputable def B_all_roots : SS := (sSeq (sRet (eCB gSorted (aCons (eBin gAdd (eCall0 F_even_roots) (eCall0 F_odd_roots)) aNil))) sNil)
noncomputable def F_all_roots : Fn := runB B_all_roots 0 0
abbrev s_roots_with : Stmt := topS 7
theorem sc_roots_with : FnScope ["row", "product", "root"] ["row", "product"] (defScope s_roots_with) := ⟨rfl, rfl, rfl, by decide +kernel, rfl, by decide +kernel, by decide +kernel⟩
noncomputable def B_roots_with : SS := (sSeq (sRet (eLc (iSeq (eCall0 F_all_roots)) (tgN 2) (bCmp gEq (eCall F_row_product (aCons (eVar 0) (aCons (eVar 2) aNil))) (eVar 1)) (eVar 2) [2])) sNil)
noncomputable def F_roots_with : Fn := runB B_roots_with 2 3
abbrev s_fifty_six : Stmt := topS 9
theorem sc_fifty_six : FnScope ["root"] ["root"] (defScope s_fifty_six) := ⟨rfl, rfl, rfl, by decide +kernel, rfl, by decide +kernel, by decide +kernel⟩
noncomputable def B_fifty_six : SS := (sSeq (sRet (eCall F_roots_with (aCons (eVar 0) (aCons (eInt 1) aNil)))) sNil)
noncomputable def F_fifty_six : Fn := runB B_fifty_six 1 1
abbrev s_twenty_eight : Stmt := topS 10
theorem sc_twenty_eight : FnScope ["root", "pairs", "row", "other"] ["root"] (defScope s_twenty_eight) := ⟨rfl, rfl, rfl, by decide +kernel, rfl, by decide +kernel, by decide +kernel⟩
noncomputable def B_twenty_eight : SS := (sSeq (sSet 1 (eLc (iSeq (eCall F_fifty_six (aCons (eVar 0) aNil))) (tgN 2) bYes (eTup (aCons (eVar 2) (aCons (eCall F_row_less (aCons (eVar 0) (aCons (eVar 2) aNil))) aNil))) [2])) (sSeq (sRet (eLc (iSeq (eVar 1)) (tgT 2 (tsCons (tgN 2) (tsCons (tgN 3) tsNil))) (bCmp gLtA (eVar 2) (eVar 3)) (eTup (aCons (eVar 2) (aCons (eVar 3) aNil))) [2, 3])) sNil))
noncomputable def F_twenty_eight : Fn := runB B_twenty_eight 1 4
abbrev s_lines_of : Stmt := topS 13
theorem sc_lines_of : FnScope ["root", "row", "other"] ["root"] (defScope s_lines_of) := ⟨rfl, rfl, rfl, by decide +kernel, rfl, by decide +kernel, by decide +kernel⟩
noncomputable def B_lines_of : SS := (sSeq (sRet (eLc (iSeq (eCall F_twenty_eight (aCons (eVar 0) aNil))) (tgT 2 (tsCons (tgN 1) (tsCons (tgN 2) tsNil))) bYes (eCall F_row_less (aCons (eVar 1) (aCons (eVar 2) aNil))) [1, 2])) sNil)
noncomputable def F_lines_of : Fn := runB B_lines_of 1 3
abbrev s_triple_sign : Stmt := topS 14
theorem sc_triple_sign : FnScope ["rows", "i", "j", "k", "product"] ["rows", "i", "j", "k"] (defScope s_triple_sign) := ⟨rfl, rfl, rfl, by decide +kernel, rfl, by decide +kernel, by decide +kernel⟩
def B_triple_sign : SS := (sSeq (sSet 4 (eBin gMul (eBin gMul (eCall F_row_product (aCons (eBin gIx (eVar 0) (eVar 1)) (aCons (eBin gIx (eVar 0) (eVar 2)) aNil))) (eCall F_row_product (aCons (eBin gIx (eVar 0) (eVar 1)) (aCons (eBin gIx (eVar 0) (eVar 3)) aNil)))) (eCall F_row_product (aCons (eBin gIx (eVar 0) (eVar 2)) (aCons (eBin gIx (eVar 0) (eVar 3)) aNil))))) (sSeq (sIf (bCmp gGtA (eVar 4) (eInt 0)) (sSeq (sRet (eInt 1)) sNil) sNil) (sSeq (sRet (eUn gNeg (eInt 1))) sNil)))
def F_triple_sign : Fn := runB B_triple_sign 4 5
abbrev s_even_triples : Stmt := topS 15
theorem sc_even_triples : FnScope ["rows", "total", "k", "j", "i"] ["rows"] (defScope s_even_triples) := ⟨rfl, rfl, rfl, by decide +kernel, rfl, by decide +kernel, by decide +kernel⟩
def B_even_triples : SS := (sSeq (sSet 1 (eInt 0)) (sSeq (sFor (iRg1 (aCons (eCB gLen (aCons (eVar 0) aNil)) aNil)) (tgN 2) (sSeq (sFor (iRg1 (aCons (eVar 2) aNil)) (tgN 3) (sSeq (sAug 1 (fun i j => i + j) (eCB gLen (aCons (eLc (iRg1 (aCons (eVar 3) aNil)) (tgN 4) (bCmp gEq (eCall F_triple_sign (aCons (eVar 0) (aCons (eVar 4) (aCons (eVar 3) (aCons (eVar 2) aNil))))) (eInt 1)) (eVar 4) [4]) aNil))) sNil)) sNil)) (sSeq (sRet (eVar 1)) sNil)))
def F_even_triples : Fn := runB B_even_triples 1 5
abbrev s_most_at_angle : Stmt := topS 16
theorem sc_most_at_angle : FnScope ["n"] ["n"] (defScope s_most_at_angle) := ⟨rfl, rfl, rfl, by decide +kernel, rfl, by decide +kernel, by decide +kernel⟩
def B_most_at_angle : SS := (sSeq (sRet (eBin gIx (fun _ φ => .ok (.tup [.int 1, .int 2, .int 4, .int 6, .int 10, .int 16, .int 28]) φ) (eBin gSub (eVar 0) (eInt 1)))) sNil)
def F_most_at_angle : Fn := runB B_most_at_angle 1 1
abbrev s__law_feed : Stmt := topS 18
theorem sc__law_feed : FnScope ["script"] ["script"] (defScope s__law_feed) := ⟨rfl, rfl, rfl, by decide +kernel, rfl, by decide +kernel, by decide +kernel⟩
abbrev s__law_draw : Stmt := topS 19
abbrev F__law_draw : Fn := drawF
theorem sc__law_draw : FnScope ["feed", "many", "cell", "told", "mixed"] ["feed", "many"] (defScope s__law_draw) := ⟨rfl, rfl, rfl, by decide +kernel, rfl, by decide +kernel, by decide +kernel⟩
abbrev s__law_is_whole : Stmt := topS 20
theorem sc__law_is_whole : FnScope ["x"] ["x"] (defScope s__law_is_whole) := ⟨rfl, rfl, rfl, by decide +kernel, rfl, by decide +kernel, by decide +kernel⟩
def B__law_is_whole : SS := (sSeq (sRet (eAnd (eUn (gIsi "int") (eVar 0)) (eNot (eUn (gIsi "bool") (eVar 0))))) sNil)
def F__law_is_whole : Fn := runB B__law_is_whole 1 1
abbrev s__law_all_roots : Stmt := topS 21
theorem sc__law_all_roots : FnScope ["found", "j", "i", "a", "b", "number", "row", "k"] [] (defScope s__law_all_roots) := ⟨rfl, rfl, rfl, by decide +kernel, rfl, by decide +kernel, by decide +kernel⟩
noncomputable def B__law_all_roots : SS := (sSeq (sSet 0 (eLst aNil)) (sSeq (sFor (iRg1 (aCons (eInt 8) aNil)) (tgN 1) (sSeq (sFor (iRg1 (aCons (eVar 1) aNil)) (tgN 2) (sSeq (sFor (iSeq (eLst (aCons (eTup (aCons (eInt 2) (aCons (eInt 2) aNil))) (aCons (eTup (aCons (eInt 2) (aCons (eUn gNeg (eInt 2)) aNil))) (aCons (eTup (aCons (eUn gNeg (eInt 2)) (aCons (eInt 2) aNil))) (aCons (eTup (aCons (eUn gNeg (eInt 2)) (aCons (eUn gNeg (eInt 2)) aNil))) aNil)))))) (tgT 2 (tsCons (tgN 3) (tsCons (tgN 4) tsNil))) (sSeq (sMut 0 gApp (eLc (iRg1 (aCons (eInt 8) aNil)) (tgN 7) bYes (eBin gAdd (eBin gMul (eCB gInt (aCons (eBin gEq (eVar 7) (eVar 2)) aNil)) (eVar 3)) (eBin gMul (eCB gInt (aCons (eBin gEq (eVar 7) (eVar 1)) aNil)) (eVar 4))) [7])) sNil)) sNil)) sNil)) (sSeq (sFor (iRg1 (aCons (eInt 256) aNil)) (tgN 5) (sSeq (sSet 6 (eLc (iRg1 (aCons (eInt 8) aNil)) (tgN 7) bYes (eBin gSub (eInt 1) (eBin gMul (eInt 2) (eBin gAnd (eBin gShr (eVar 5) (eVar 7)) (eInt 1)))) [7])) (sSeq (sIf (bCmp gEq (eBin gMod (eCB gInt (aCons (eCB gSum (aCons (eVar 6) aNil)) aNil)) (eInt 4)) (eInt 0)) (sSeq (sMut 0 gApp (eVar 6)) sNil) sNil) sNil))) (sSeq (sRet (eCB gSorted (aCons (eVar 0) aNil))) sNil))))
noncomputable def F__law_all_roots : Fn := runB B__law_all_roots 0 8
abbrev s__law_dot : Stmt := topS 22
theorem sc__law_dot : FnScope ["one", "other", "k"] ["one", "other"] (defScope s__law_dot) := ⟨rfl, rfl, rfl, by decide +kernel, rfl, by decide +kernel, by decide +kernel⟩
def B__law_dot : SS := (sSeq (sRet (eBin gDiv (eCB gSum (aCons (eLc (iRg1 (aCons (eInt 8) aNil)) (tgN 2) bYes (eBin gMul (eBin gIx (eVar 0) (eVar 2)) (eBin gIx (eVar 1) (eVar 2))) [2]) aNil)) (eInt 4))) sNil)
def F__law_dot : Fn := runB B__law_dot 2 3
abbrev s__law_lines : Stmt := topS 23
theorem sc__law_lines : FnScope ["roots", "root", "near", "found", "row", "other", "k"] ["roots", "root"] (defScope s__law_lines) := ⟨rfl, rfl, rfl, by decide +kernel, rfl, by decide +kernel, by decide +kernel⟩
def B__law_lines : SS := (sSeq (sSet 2 (eLc (iSeq (eVar 0)) (tgN 4) (bCmp gEq (eCall F__law_dot (aCons (eVar 4) (aCons (eVar 1) aNil))) (eInt 1)) (eVar 4) [4])) (sSeq (sSet 3 (eLst aNil)) (sSeq (sFor (iSeq (eVar 2)) (tgN 4) (sSeq (sSet 5 (eLc (iRg1 (aCons (eInt 8) aNil)) (tgN 6) bYes (eBin gSub (eBin gIx (eVar 1) (eVar 6)) (eBin gIx (eVar 4) (eVar 6))) [6])) (sSeq (sIf (bCmp gLtA (eVar 4) (eVar 5)) (sSeq (sMut 3 gApp (eLc (iRg1 (aCons (eInt 8) aNil)) (tgN 6) bYes (eBin gSub (eBin gIx (eVar 4) (eVar 6)) (eBin gIx (eVar 5) (eVar 6))) [6])) sNil) sNil) sNil))) (sSeq (sRet (eVar 3)) sNil))))
def F__law_lines : Fn := runB B__law_lines 2 7
abbrev s__law_rank : Stmt := topS 24
theorem sc__law_rank : FnScope ["rows", "left", "rank", "place", "fits", "own", "row", "k"] ["rows"] (defScope s__law_rank) := ⟨rfl, rfl, rfl, by decide +kernel, rfl, by decide +kernel, by decide +kernel⟩
def B__law_rank : SS := (sSeq (sSet 1 (eLc (iSeq (eVar 0)) (tgN 6) bYes (eCB gList (aCons (eVar 6) aNil)) [6])) (sSeq (sSet 2 (eInt 0)) (sSeq (sFor (iRg1 (aCons (eInt 8) aNil)) (tgN 3) (sSeq (sSet 4 (eLc (iRg1 (aCons (eCB gLen (aCons (eVar 1) aNil)) aNil)) (tgN 7) (bCmp gNe (eBin gIx (eBin gIx (eVar 1) (eVar 7)) (eVar 3)) (eInt 0)) (eVar 7) [7])) (sSeq (sIf (bCmp gGtA (eCB gLen (aCons (eVar 4) aNil)) (eInt 0)) (sSeq (sPopS 1 5 (eBin gIx (eVar 4) (eInt 0))) (sSeq (sSet 1 (eLc (iSeq (eVar 1)) (tgN 6) bYes (eLc (iRg1 (aCons (eInt 8) aNil)) (tgN 7) bYes (eBin gSub (eBin gMul (eBin gIx (eVar 6) (eVar 7)) (eBin gIx (eVar 5) (eVar 3))) (eBin gMul (eBin gIx (eVar 5) (eVar 7)) (eBin gIx (eVar 6) (eVar 3)))) [7]) [6])) (sSeq (sAug 2 (fun i j => i + j) (eInt 1)) sNil))) sNil) sNil))) (sSeq (sRet (eVar 2)) sNil))))
def F__law_rank : Fn := runB B__law_rank 1 8
abbrev s__law_clear : Stmt := topS 25
theorem sc__law_clear : FnScope ["rows", "found", "row", "here", "own", "place", "places", "k"] ["rows"] (defScope s__law_clear) := ⟨rfl, rfl, rfl, by decide +kernel, rfl, by decide +kernel, by decide +kernel⟩
def B__law_clear : SS := (sSeq (sSet 1 (eLst aNil)) (sSeq (sFor (iSeq (eVar 0)) (tgN 2) (sKeep (sSeq (sSet 3 (eCB gList (aCons (eVar 2) aNil))) (sSeq (sFor (iSeq (eVar 1)) (tgT 2 (tsCons (tgN 4) (tsCons (tgN 5) tsNil))) (sSeq (sSet 3 (eLc (iRg1 (aCons (eInt 8) aNil)) (tgN 7) bYes (eBin gSub (eBin gMul (eBin gIx (eVar 3) (eVar 7)) (eBin gIx (eVar 4) (eVar 5))) (eBin gMul (eBin gIx (eVar 4) (eVar 7)) (eBin gIx (eVar 3) (eVar 5)))) [7])) sNil)) (sSeq (sSet 6 (eLc (iRg1 (aCons (eInt 8) aNil)) (tgN 7) (bCmp gNe (eBin gIx (eVar 3) (eVar 7)) (eInt 0)) (eVar 7) [7])) sNil))) (sSeq (sIf (bCmp gGtA (eCB gLen (aCons (eVar 6) aNil)) (eInt 0)) (sSeq (sMut 1 gApp (eTup (aCons (eVar 3) (aCons (eBin gIx (eVar 6) (eInt 0)) aNil)))) sNil) sNil) sNil))) (sSeq (sRet (eVar 1)) sNil)))
def F__law_clear : Fn := runB B__law_clear 1 8
abbrev s__law_spanned : Stmt := topS 26
theorem sc__law_spanned : FnScope ["rows", "lines", "clear", "many", "row", "here", "own", "place", "k", "x"] ["rows", "lines"] (defScope s__law_spanned) := ⟨rfl, rfl, rfl, by decide +kernel, rfl, by decide +kernel, by decide +kernel⟩
def B__law_spanned : SS := (sSeq (sSet 2 (eCall F__law_clear (aCons (eVar 0) aNil))) (sSeq (sSet 3 (eInt 0)) (sSeq (sFor (iSeq (eVar 1)) (tgN 4) (sSeq (sSet 5 (eCB gList (aCons (eVar 4) aNil))) (sSeq (sFor (iSeq (eVar 2)) (tgT 2 (tsCons (tgN 6) (tsCons (tgN 7) tsNil))) (sSeq (sSet 5 (eLc (iRg1 (aCons (eInt 8) aNil)) (tgN 8) bYes (eBin gSub (eBin gMul (eBin gIx (eVar 5) (eVar 8)) (eBin gIx (eVar 6) (eVar 7))) (eBin gMul (eBin gIx (eVar 6) (eVar 8)) (eBin gIx (eVar 5) (eVar 7)))) [8])) sNil)) (sSeq (sAug 3 (fun i j => i + j) (eCB gInt (aCons (eBin gEq (eCB gLen (aCons (eLc (iSeq (eVar 5)) (tgN 9) (bCmp gNe (eVar 9) (eInt 0)) (eVar 9) [9]) aNil)) (eInt 0)) aNil))) sNil)))) (sSeq (sRet (eTup (aCons (eCB gLen (aCons (eVar 2) aNil)) (aCons (eVar 3) aNil)))) sNil))))
def F__law_spanned : Fn := runB B__law_spanned 2 10
abbrev s__law_signs : Stmt := topS 27
theorem sc__law_signs : FnScope ["rows", "n", "table", "even", "i", "j", "one", "other", "k"] ["rows"] (defScope s__law_signs) := ⟨rfl, rfl, rfl, by decide +kernel, rfl, by decide +kernel, by decide +kernel⟩
def B__law_signs : SS := (sSeq (sSet 1 (eCB gLen (aCons (eVar 0) aNil))) (sSeq (sSet 2 (eLc (iSeq (eVar 0)) (tgN 6) bYes (eLc (iSeq (eVar 0)) (tgN 7) bYes (eCall F__law_dot (aCons (eVar 6) (aCons (eVar 7) aNil))) [7]) [6])) (sSeq (sSet 3 (eInt 0)) (sSeq (sFor (iRg1 (aCons (eVar 1) aNil)) (tgN 4) (sSeq (sFor (iRg2 (aCons (eBin gAdd (eVar 4) (eInt 1)) (aCons (eVar 1) aNil))) (tgN 5) (sSeq (sAug 3 (fun i j => i + j) (eCB gLen (aCons (eLc (iRg2 (aCons (eBin gAdd (eVar 5) (eInt 1)) (aCons (eVar 1) aNil))) (tgN 8) (bCmp gGtA (eBin gMul (eBin gMul (eBin gIx (eBin gIx (eVar 2) (eVar 4)) (eVar 5)) (eBin gIx (eBin gIx (eVar 2) (eVar 4)) (eVar 8))) (eBin gIx (eBin gIx (eVar 2) (eVar 5)) (eVar 8))) (eInt 0)) (eVar 8) [8]) aNil))) sNil)) sNil)) (sSeq (sRet (eVar 3)) sNil)))))
def F__law_signs : Fn := runB B__law_signs 1 9
abbrev s__law_chosen : Stmt := topS 28
theorem sc__law_chosen : FnScope ["feed", "roots", "root", "lines", "chosen", "counts", "own", "wishes", "wish", "fits", "free", "row", "one"] ["feed", "roots", "root", "lines"] (defScope s__law_chosen) := ⟨rfl, rfl, rfl, by decide +kernel, rfl, by decide +kernel, by decide +kernel⟩
def B__law_chosen : SS := (sSeq (sSet 4 (eLst aNil)) (sSeq (sSet 5 (eLst (aCons (eInt 28) aNil))) (sSeq (sSet 6 (eLc (iSeq (eVar 1)) (tgN 11) (bCmp gEq (eCall F__law_dot (aCons (eVar 11) (aCons (eVar 2) aNil))) (eInt 0)) (eVar 11) [11])) (sSeq (sSet 7 (eLst (aCons (eLst aNil) (aCons (eLst (aCons (eUn gNeg (eInt 1)) aNil)) (aCons (eLst (aCons (eInt 0) (aCons (eUn gNeg (eInt 1)) aNil))) (aCons (eLst (aCons (eInt 0) (aCons (eUn gNeg (eInt 1)) (aCons (eInt 0) aNil)))) (aCons (eLst (aCons (eInt 0) (aCons (eInt 0) (aCons (eUn gNeg (eInt 1)) (aCons (eInt 0) aNil))))) (aCons (eLst (aCons (eUn gNeg (eInt 1)) (aCons (eInt 0) (aCons (eInt 0) (aCons (eInt 0) (aCons (eInt 0) aNil)))))) aNil)))))))) (sSeq (sFor (iSeq (eVar 7)) (tgN 8) (sSeq (sSet 9 (eLc (iSeq (eVar 6)) (tgN 11) (bCmp gEq (eLc (iSeq (eVar 4)) (tgN 12) bYes (eCall F__law_dot (aCons (eVar 11) (aCons (eVar 12) aNil))) [12]) (eVar 8)) (eVar 11) [11])) (sSeq (sIf (bCmp gEq (eCB gLen (aCons (eVar 9) aNil)) (eInt 0)) (sSeq (sRet eNon) sNil) sNil) (sSeq (sMut 4 gApp (eBin gIx (eVar 9) (eCall F__law_draw (aCons (eVar 0) (aCons (eCB gLen (aCons (eVar 9) aNil)) aNil))))) (sSeq (sSet 10 (eLc (iSeq (eVar 3)) (tgN 11) (bCmp gEq (eCB gLen (aCons (eLc (iSeq (eVar 4)) (tgN 12) (bCmp gNe (eCall F__law_dot (aCons (eVar 11) (aCons (eVar 12) aNil))) (eInt 0)) (eVar 12) [12]) aNil)) (eInt 0)) (eVar 11) [11])) (sSeq (sMut 5 gApp (eCB gLen (aCons (eVar 10) aNil))) sNil)))))) (sSeq (sRet (eVar 5)) sNil))))))
def F__law_chosen : Fn := runB B__law_chosen 4 13
abbrev s__law_right : Stmt := topS 29
theorem sc__law_right : FnScope ["feed", "roots", "root", "handed", "due", "told", "j", "row", "rows", "rest", "step", "given", "many", "left", "i", "k", "sign", "product", "some", "size", "counts", "x"] ["feed", "roots", "root"] (defScope s__law_right) := ⟨rfl, rfl, rfl, by decide +kernel, rfl, by decide +kernel, by decide +kernel⟩
noncomputable def B__law_right : SS := (sSeq (sSet 3 (eCB gList (aCons (eVar 2) aNil))) (sSeq (sSet 4 (eCall F__law_lines (aCons (eVar 1) (aCons (eVar 2) aNil)))) (sSeq (sSet 5 (eCall F_lines_of (aCons (eVar 3) aNil))) (sSeq (sIf (bOr (bNot (bTru (eUn (gIsi "list") (eVar 5)))) (bOr (bCmp gNe (eVar 5) (eVar 4)) (bOr (bCmp gNe (eVar 3) (eVar 2)) (bCmp gNe (eCB gLen (aCons (eVar 5) aNil)) (eInt 28))))) (sSeq (sRet (eBl false)) sNil) sNil) (sSeq (sFor (iRg1 (aCons (eInt 28) aNil)) (tgN 6) (sSeq (sSet 7 (eBin gIx (eVar 5) (eVar 6))) (sSeq (sIf (bOr (bNot (bTru (eUn (gIsi "list") (eVar 7)))) (bOr (bCmp gGtA (eCB gLen (aCons (eLc (iSeq (eVar 7)) (tgN 21) (bNot (bTru (eCall F__law_is_whole (aCons (eVar 21) aNil)))) (eVar 21) [21]) aNil)) (eInt 0)) (bOr (bCmp gNe (eCall F__law_dot (aCons (eVar 7) (aCons (eVar 7) aNil))) (eInt 6)) (bCmp gNe (eCall F__law_dot (aCons (eVar 7) (aCons (eVar 2) aNil))) (eInt 0))))) (sSeq (sRet (eBl false)) sNil) sNil) (sSeq (sIf (bCmp gGtA (eCB gLen (aCons (eLc (iRg1 (aCons (eVar 6) aNil)) (tgN 14) (bCmp gNe (eCB gAbs (aCons (eCall F__law_dot (aCons (eBin gIx (eVar 5) (eVar 14)) (aCons (eVar 7) aNil))) aNil)) (eInt 2)) (eVar 14) [14]) aNil)) (eInt 0)) (sSeq (sRet (eBl false)) sNil) sNil) sNil)))) (sSeq (sIf (bCmp gNe (eCall F__law_rank (aCons (eVar 5) aNil)) (eInt 7)) (sSeq (sRet (eBl false)) sNil) sNil) (sSeq (sSet 8 (eLst aNil)) (sSeq (sSet 9 (eCB gList (aCons (eVar 4) aNil))) (sSeq (sFor (iRg1 (aCons (eBin gAdd (eInt 1) (eCall F__law_draw (aCons (eVar 0) (aCons (eInt 10) aNil)))) aNil)) (tgN 10) (sSeq (sPopA 8 9 (eCall F__law_draw (aCons (eVar 0) (aCons (eCB gLen (aCons (eVar 9) aNil)) aNil)))) sNil)) (sSeq (sSet 11 (eLc (iSeq (eVar 8)) (tgN 7) bYes (eCB gList (aCons (eVar 7) aNil)) [7])) (sSeq (sSet 12 (eCall F_even_triples (aCons (eVar 11) aNil))) (sSeq (sIf (bOr (bNot (bTru (eCall F__law_is_whole (aCons (eVar 12) aNil)))) (bOr (bCmp gNe (eVar 12) (eCall F__law_signs (aCons (eVar 8) aNil))) (bCmp gNe (eVar 11) (eVar 8)))) (sSeq (sRet (eBl false)) sNil) sNil) (sSeq (sIf (bCmp gGtA (eCB gLen (aCons (eVar 8) aNil)) (eInt 2)) (sSeq (sFor (iRg1 (aCons (eInt 4) aNil)) (tgN 10) (sSeq (sSet 13 (eLc (iRg1 (aCons (eCB gLen (aCons (eVar 8) aNil)) aNil)) (tgN 15) bYes (eVar 15) [15])) (sSeq (sPopS 13 14 (eCall F__law_draw (aCons (eVar 0) (aCons (eCB gLen (aCons (eVar 13) aNil)) aNil)))) (sSeq (sPopS 13 6 (eCall F__law_draw (aCons (eVar 0) (aCons (eCB gLen (aCons (eVar 13) aNil)) aNil)))) (sSeq (sPopS 13 15 (eCall F__law_draw (aCons (eVar 0) (aCons (eCB gLen (aCons (eVar 13) aNil)) aNil)))) (sSeq (sSet 16 (eCall F_triple_sign (aCons (eVar 11) (aCons (eVar 14) (aCons (eVar 6) (aCons (eVar 15) aNil)))))) (sSeq (sSet 17 (eBin gMul (eBin gMul (eCall F__law_dot (aCons (eBin gIx (eVar 8) (eVar 14)) (aCons (eBin gIx (eVar 8) (eVar 6)) aNil))) (eCall F__law_dot (aCons (eBin gIx (eVar 8) (eVar 14)) (aCons (eBin gIx (eVar 8) (eVar 15)) aNil)))) (eCall F__law_dot (aCons (eBin gIx (eVar 8) (eVar 6)) (aCons (eBin gIx (eVar 8) (eVar 15)) aNil))))) (sSeq (sIf (bOr (bNot (bTru (eCall F__law_is_whole (aCons (eVar 16) aNil)))) (bOr (bCmp gNe (eVar 16) (eBin gIx (eLst (aCons (eUn gNeg (eInt 1)) (aCons (eInt 1) aNil))) (eCB gInt (aCons (eBin gGtA (eVar 17) (eInt 0)) aNil)))) (bCmp gNe (eVar 11) (eVar 8)))) (sSeq (sRet (eBl false)) sNil) sNil) sNil)))))))) sNil) sNil) (sSeq (sFor (iRg1 (aCons (eInt 4) aNil)) (tgN 10) (sSeq (sSet 18 (eLc (iRg1 (aCons (eBin gAdd (eInt 1) (eCall F__law_draw (aCons (eVar 0) (aCons (eInt 7) aNil)))) aNil)) (tgN 15) bYes (eBin gIx (eVar 4) (eCall F__law_draw (aCons (eVar 0) (aCons (eInt 28) aNil)))) [15])) (sSeq (sAsg (tgT 2 (tsCons (tgN 19) (tsCons (tgN 12) tsNil))) (eCall F__law_spanned (aCons (eVar 18) (aCons (eVar 4) aNil)))) (sSeq (sIf (bCmp gGtA (eVar 12) (eCall F_most_at_angle (aCons (eVar 19) aNil))) (sSeq (sRet (eBl false)) sNil) sNil) sNil)))) (sSeq (sSet 20 (eCall F__law_chosen (aCons (eVar 0) (aCons (eVar 1) (aCons (eVar 2) (aCons (eVar 4) aNil)))))) (sSeq (sRet (eBin gEq (eVar 20) (eLst (aCons (eInt 28) (aCons (eInt 16) (aCons (eInt 10) (aCons (eInt 6) (aCons (eInt 4) (aCons (eInt 2) (aCons (eInt 1) aNil)))))))))) sNil))))))))))))))))
noncomputable def F__law_right : Fn := runB B__law_right 3 22
abbrev s_law : Stmt := topS 30
theorem sc_law : FnScope ["script", "feed", "roots", "root", "told", "lines", "n", "x", "row"] ["script"] (defScope s_law) := ⟨rfl, rfl, rfl, by decide +kernel, rfl, by decide +kernel, by decide +kernel⟩
noncomputable def B_law : SS := (sSeq (sSet 2 (eCall0 F__law_all_roots)) (sSeq (sSet 3 (eBin gIx (eVar 2) (eCall F__law_draw (aCons (eVar 1) (aCons (eInt 240) aNil))))) (sSeq (sIf (bNot (bTru (eCall F__law_right (aCons (eVar 1) (aCons (eVar 2) (aCons (eVar 3) aNil)))))) (sSeq (sRet (eBl false)) sNil) sNil) (sSeq (sSet 4 (eLc (iRg2 (aCons (eInt 1) (aCons (eInt 8) aNil))) (tgN 6) bYes (eCall F_most_at_angle (aCons (eVar 6) aNil)) [6])) (sSeq (sIf (bOr (bCmp gNe (eVar 4) (eLst (aCons (eInt 1) (aCons (eInt 2) (aCons (eInt 4) (aCons (eInt 6) (aCons (eInt 10) (aCons (eInt 16) (aCons (eInt 28) aNil))))))))) (bCmp gGtA (eCB gLen (aCons (eLc (iSeq (eVar 4)) (tgN 7) (bNot (bTru (eCall F__law_is_whole (aCons (eVar 7) aNil)))) (eVar 7) [7]) aNil)) (eInt 0))) (sSeq (sRet (eBl false)) sNil) sNil) (sSeq (sSet 5 (eCall F__law_lines (aCons (eVar 2) (aCons (eVar 3) aNil)))) (sSeq (sIf (bAnd (bCmp gEq (eCall F__law_draw (aCons (eVar 1) (aCons (eInt 4) aNil))) (eInt 0)) (bCmp gNe (eCall F_even_triples (aCons (eLc (iSeq (eVar 5)) (tgN 8) bYes (eCB gList (aCons (eVar 8) aNil)) [8]) aNil)) (eCall F__law_signs (aCons (eVar 5) aNil)))) (sSeq (sRet (eBl false)) sNil) sNil) (sSeq (sIf (bOr (bCmp gNe (eCall F__law_spanned (aCons (eSl (eVar 5) oNone (oSome (eInt 1))) (aCons (eVar 5) aNil))) (eTup (aCons (eInt 1) (aCons (eInt 1) aNil)))) (bCmp gNe (eCall F__law_spanned (aCons (eSl (eVar 5) oNone (oSome (eInt 2))) (aCons (eVar 5) aNil))) (eTup (aCons (eInt 2) (aCons (eInt 2) aNil))))) (sSeq (sRet (eBl false)) sNil) sNil) (sSeq (sRet (eAnd (eBin gEq (eCall F_even_triples (aCons (eSl (eVar 5) oNone (oSome (eInt 2))) aNil)) (eInt 0)) (eBin gEq (eCB gLen (aCons (eCall F_lines_of (aCons (eLst (aCons (eInt 2) (aCons (eInt 2) (aCons (eInt 0) (aCons (eInt 0) (aCons (eInt 0) (aCons (eInt 0) (aCons (eInt 0) (aCons (eInt 0) aNil))))))))) aNil)) aNil)) (eInt 28)))) sNil)))))))))
section
variable {P : Program} {w : World} {K : PySem.W.Frag} {mg : Str → Option Value} {base : Heap} {cls : Str → Option (Addr × List Str)}
theorem ok_row_product {f : Addr} {fd : FuncData} (F : Fun K "row_product" "row_product" s_row_product f fd) (m_sum : mg "sum" = none) (m_zip : mg "zip" = none) :
    FnOk P w K mg base (L2N.CX P w) 1 f fd ["one", "other"] (spF cls K [true, true] .o F_row_product) :=
  fn_sem F sc_row_product [true, true] rfl .o B_row_product fun cdv A outer s H E cf cZ cH s0 r0 hr => (
s_cons (own := [.p, .p, .s, .s]) (s_ret (x_div (EX.o2p (x_sum rfl rfl m_sum (x_cons (EX.o2p (x_lc [("a", 2), ("b", 3)] rfl sc_row_product.nd (by kernel_rfl) (i_zip rfl m_zip (x_cons (x_var 0) (x_cons (x_var 1) x_nil))) (fun _ _ _ _ _ => (g_tup rfl rfl (gs_cons (g_name 2 sc_row_product.nd) (gs_cons (g_name 3 sc_row_product.nd) gs_nil)))) (fun _ _ _ _ _ => t_yes) (fun _ _ _ _ _ => (EX.o2s (x_mul (x_var 2) (x_var 3)))))) x_nil))) (EX.o2p x_int)))
  (s_nil (own := [.p, .p, .s, .s])))
theorem ok_row_less {f : Addr} {fd : FuncData} (F : Fun K "row_less" "row_less" s_row_less f fd) (m_zip : mg "zip" = none) :
    FnOk P w K mg base (L2N.CX P w) 1 f fd ["one", "other"] (spF cls K [true, true] .o F_row_less) :=
  fn_sem F sc_row_less [true, true] rfl .o B_row_less fun cdv A outer s H E cf cZ cH s0 r0 hr => (
s_cons (own := [.p, .p, .s, .s]) (s_ret (x_lc [("a", 2), ("b", 3)] rfl sc_row_less.nd (by kernel_rfl) (i_zip rfl m_zip (x_cons (x_var 0) (x_cons (x_var 1) x_nil))) (fun _ _ _ _ _ => (g_tup rfl rfl (gs_cons (g_name 2 sc_row_less.nd) (gs_cons (g_name 3 sc_row_less.nd) gs_nil)))) (fun _ _ _ _ _ => t_yes) (fun _ _ _ _ _ => (EX.o2s (x_sub (x_var 2) (x_var 3))))))
  (s_nil (own := [.p, .p, .s, .s])))
theorem ok_even_roots {f : Addr} {fd : FuncData} (F : Fun K "even_roots" "even_roots" s_even_roots f fd) (m_range : mg "range" = none) (g_SIZE : ∃ t, mg "SIZE" = some (.int 8 t)) :
    FnOk P w K mg base (L2N.CX P w) 1 f fd [] (spF cls K [] .o F_even_roots) :=
  fn_sem F sc_even_roots [] rfl .o B_even_roots fun cdv A outer s H E cf cZ cH s0 r0 hr => (
s_cons (own := [.s, .s, .s, .s, .s, .s]) (o1 := [.o, .s, .s, .s, .s, .s]) (s_setO 0 sc_even_roots.nd (x_lst x_nil))
  (s_cons (own := [.o, .s, .s, .s, .s, .s]) (o1 := [.o, .s, .s, .s, .s, .s]) (s_for (own := [.o, .s, .s, .s, .s, .s]) (o1 := [.o, .s, .s, .s, .s, .s]) (passes_of rfl) rfl (i_range1 m_range (x_cons (EX.o2p (x_glob (v := .int 8) (hm := g_SIZE.choose_spec) (r := ⟨_, rfl⟩) (rd := fun _ _ _ => .int 8))) x_nil)) (g_name 1 sc_even_roots.nd)
 (s_cons (own := [.o, .s, .s, .s, .s, .s]) (o1 := [.o, .s, .s, .s, .s, .s]) (s_for (own := [.o, .s, .s, .s, .s, .s]) (o1 := [.o, .s, .s, .s, .s, .s]) (passes_of rfl) rfl (i_range1 m_range (x_cons (x_var 1) x_nil)) (g_name 2 sc_even_roots.nd)
 (s_cons (own := [.o, .s, .s, .s, .s, .s]) (o1 := [.o, .s, .s, .s, .s, .s]) (s_for (own := [.o, .s, .s, .s, .s, .s]) (o1 := [.o, .s, .s, .s, .s, .s]) (passes_of rfl) rfl (i_seq rfl (x_tup (x_cons (x_tup (x_cons (EX.o2s x_int) (x_cons (EX.o2s x_int) x_nil))) (x_cons (x_tup (x_cons (EX.o2s x_int) (x_cons (EX.o2s (x_neg (EX.o2p x_int))) x_nil))) (x_cons (x_tup (x_cons (EX.o2s (x_neg (EX.o2p x_int))) (x_cons (EX.o2s x_int) x_nil))) (x_cons (x_tup (x_cons (EX.o2s (x_neg (EX.o2p x_int))) (x_cons (EX.o2s (x_neg (EX.o2p x_int))) x_nil))) x_nil)))))) (g_tup rfl rfl (gs_cons (g_name 3 sc_even_roots.nd) (gs_cons (g_name 4 sc_even_roots.nd) gs_nil)))
 (s_cons (own := [.o, .s, .s, .s, .s, .s]) (o1 := [.o, .s, .s, .s, .s, .o]) (s_setO 5 sc_even_roots.nd (x_mul (EX.o2p (x_lst (x_cons (EX.o2s x_int) x_nil))) (EX.o2p (x_glob (v := .int 8) (hm := g_SIZE.choose_spec) (r := ⟨_, rfl⟩) (rd := fun _ _ _ => .int 8)))))
  (s_cons (own := [.o, .s, .s, .s, .s, .o]) (o1 := [.o, .s, .s, .s, .s, .o]) (s_put 5 (x_varS 3) (x_var 2))
  (s_cons (own := [.o, .s, .s, .s, .s, .o]) (o1 := [.o, .s, .s, .s, .s, .o]) (s_put 5 (x_varS 4) (x_var 1))
  (s_frz [5] (by decide) (s_cons (own := [.o, .s, .s, .s, .s, .s]) (o1 := [.o, .s, .s, .s, .s, .s]) (s_append 0 (x_varS 5))
  (s_nil)))))))
  (s_nil)))
  (s_nil)))
  (s_cons (own := [.o, .s, .s, .s, .s, .s]) (s_retN 0)
  (s_nil (own := [.o, .s, .s, .s, .s, .s])))))
theorem ok_odd_roots {f : Addr} {fd : FuncData} (F : Fun K "odd_roots" "odd_roots" s_odd_roots f fd) (m_range : mg "range" = none) (m_sum : mg "sum" = none) (g_SIZE : ∃ t, mg "SIZE" = some (.int 8 t)) :
    FnOk P w K mg base (L2N.CX P w) 1 f fd [] (spF cls K [] .o F_odd_roots) :=
  fn_sem F sc_odd_roots [] rfl .o B_odd_roots fun cdv A outer s H E cf cZ cH s0 r0 hr => (
s_cons (own := [.s, .s, .s, .s]) (o1 := [.s, .s, .s, .s]) (s_setS 0 sc_odd_roots.nd (EX.o2s (x_lst (x_cons (EX.o2s (x_lst x_nil)) x_nil))))
  (s_cons (own := [.s, .s, .s, .s]) (o1 := [.s, .s, .s, .s]) (s_for (own := [.s, .s, .s, .s]) (o1 := [.s, .s, .s, .s]) (passes_of rfl) rfl (i_range1 m_range (x_cons (EX.o2p (x_glob (v := .int 8) (hm := g_SIZE.choose_spec) (r := ⟨_, rfl⟩) (rd := fun _ _ _ => .int 8))) x_nil)) (g_name 1 sc_odd_roots.nd)
 (s_end (on := [.o, .s, .s, .s]) [0] (by decide) (s_cons (own := [.s, .s, .s, .s]) (o1 := [.o, .s, .s, .s]) (s_setLc2 0 [("row", 2), ("sign", 3)] [3] rfl sc_odd_roots.nd (by kernel_rfl) (i_seq rfl (x_var 0)) (fun _ _ _ _ _ => (g_name 2 sc_odd_roots.nd)) (fun _ _ _ _ _ => t_yes) (fun _ _ _ _ _ => (i_seq rfl (x_tup (x_cons (EX.o2s (x_neg (EX.o2p x_int))) (x_cons (EX.o2s x_int) x_nil))))) (fun _ _ _ _ _ => (g_name 3 sc_odd_roots.nd)) (fun _ _ _ _ _ => t_yes) (fun _ _ _ _ _ => (EX.o2s (x_add rfl (x_var 2) (EX.o2p (x_lst (x_cons (x_varS 3) x_nil)))))))
  (s_nil))))
  (s_cons (own := [.s, .s, .s, .s]) (s_ret (x_lc [("row", 2)] rfl sc_odd_roots.nd (by kernel_rfl) (i_seq rfl (x_var 0)) (fun _ _ _ _ _ => (g_name 2 sc_odd_roots.nd)) (fun _ _ _ _ _ => (t_one (b_eq rfl (hu64 hr) (EX.o2p (x_mod (EX.o2p (x_sum rfl rfl m_sum (x_cons (x_var 2) x_nil))) (EX.o2p x_int))) (EX.o2p x_int)))) (fun _ _ _ _ _ => (x_varS 2))))
  (s_nil (own := [.s, .s, .s, .s])))))
theorem ok_all_roots {f : Addr} {fd : FuncData} (F : Fun K "all_roots" "all_roots" s_all_roots f fd) (c_even_roots : Cal P w K mg base cls "even_roots" 1 [] .o F_even_roots) (c_odd_roots : Cal P w K mg base cls "odd_roots" 1 [] .o F_odd_roots) (m_sorted : mg "sorted" = none) :
    FnOk P w K mg base (L2N.CX P w) 2 f fd [] (spF cls K [] .o F_all_roots) :=
  fn_sem F sc_all_roots [] rfl .o B_all_roots fun cdv A outer s H E cf cZ cH s0 r0 hr => (
s_cons (own := []) (s_ret (x_sorted rfl (hu66 hr) m_sorted (x_cons (EX.o2p (x_add rfl (EX.o2p (x_call0 rfl c_even_roots (hr.mono (by decide)))) (EX.o2p (x_call0 rfl c_odd_roots (hr.mono (by decide)))))) x_nil)))
  (s_nil (own := [])))
theorem ok_roots_with {f : Addr} {fd : FuncData} (F : Fun K "roots_with" "roots_with" s_roots_with f fd) (c_all_roots : Cal P w K mg base cls "all_roots" 2 [] .o F_all_roots) (c_row_product : Cal P w K mg base cls "row_product" 1 [true, true] .o F_row_product) :
    FnOk P w K mg base (L2N.CX P w) 3 f fd ["row", "product"] (spF cls K [true, true] .o F_roots_with) :=
  fn_sem F sc_roots_with [true, true] rfl .o B_roots_with fun cdv A outer s H E cf cZ cH s0 r0 hr => (
s_cons (own := [.p, .p, .s]) (s_ret (x_lc [("root", 2)] rfl sc_roots_with.nd (by kernel_rfl) (i_seq rfl (EX.o2p (x_call0 rfl c_all_roots (hr.mono (by decide))))) (fun _ _ _ _ _ => (g_name 2 sc_roots_with.nd)) (fun _ _ _ _ _ => (t_one (b_eq rfl (hu64 hr) (EX.o2p (x_call rfl c_row_product (hr.mono (by decide)) takes0N (m_p (x_var 0) (m_p (x_var 2) m_nil)))) (x_var 1)))) (fun _ _ _ _ _ => (x_varS 2))))
  (s_nil (own := [.p, .p, .s])))
theorem ok_fifty_six {f : Addr} {fd : FuncData} (F : Fun K "fifty_six" "fifty_six" s_fifty_six f fd) (c_roots_with : Cal P w K mg base cls "roots_with" 3 [true, true] .o F_roots_with) :
    FnOk P w K mg base (L2N.CX P w) 4 f fd ["root"] (spF cls K [true] .o F_fifty_six) :=
  fn_sem F sc_fifty_six [true] rfl .o B_fifty_six fun cdv A outer s H E cf cZ cH s0 r0 hr => (
s_cons (own := [.p]) (s_ret (x_call rfl c_roots_with (hr.mono (by decide)) (L2N.takes_of rfl rfl rfl rfl) (m_p (x_var 0) (m_p (EX.o2p x_int) m_nil))))
  (s_nil (own := [.p])))
theorem ok_twenty_eight {f : Addr} {fd : FuncData} (F : Fun K "twenty_eight" "twenty_eight" s_twenty_eight f fd) (c_fifty_six : Cal P w K mg base cls "fifty_six" 4 [true] .o F_fifty_six) (c_row_less : Cal P w K mg base cls "row_less" 1 [true, true] .o F_row_less) :
    FnOk P w K mg base (L2N.CX P w) 5 f fd ["root"] (spF cls K [true] .o F_twenty_eight) :=
  fn_sem F sc_twenty_eight [true] rfl .o B_twenty_eight fun cdv A outer s H E cf cZ cH s0 r0 hr => (
s_cons (own := [.p, .s, .s, .s]) (o1 := [.p, .o, .s, .s]) (s_setLc 1 [("row", 2)] rfl sc_twenty_eight.nd (by kernel_rfl) (i_seq rfl (EX.o2p (x_call rfl c_fifty_six (hr.mono (by decide)) (L2N.takes_of rfl rfl rfl rfl) (m_p (x_var 0) m_nil)))) (fun _ _ _ _ _ => (g_name 2 sc_twenty_eight.nd)) (fun _ _ _ _ _ => t_yes) (fun _ _ _ _ _ => (x_tup (x_cons (x_varS 2) (x_cons (EX.o2s (x_call rfl c_row_less (hr.mono (by decide)) takes0N (m_p (x_var 0) (m_p (x_var 2) m_nil)))) x_nil)))))
  (s_cons (own := [.p, .o, .s, .s]) (s_ret (x_lc [("row", 2), ("other", 3)] rfl sc_twenty_eight.nd (by kernel_rfl) (i_seq rfl (x_var 1)) (fun _ _ _ _ _ => (g_tup rfl rfl (gs_cons (g_name 2 sc_twenty_eight.nd) (gs_cons (g_name 3 sc_twenty_eight.nd) gs_nil)))) (fun _ _ _ _ _ => (t_one (b_ltA rfl (hu64 hr) (x_var 2) (x_var 3)))) (fun _ _ _ _ _ => (x_tup (x_cons (x_varS 2) (x_cons (x_varS 3) x_nil))))))
  (s_nil (own := [.p, .o, .s, .s]))))
theorem ok_lines_of {f : Addr} {fd : FuncData} (F : Fun K "lines_of" "lines_of" s_lines_of f fd) (c_twenty_eight : Cal P w K mg base cls "twenty_eight" 5 [true] .o F_twenty_eight) (c_row_less : Cal P w K mg base cls "row_less" 1 [true, true] .o F_row_less) :
    FnOk P w K mg base (L2N.CX P w) 6 f fd ["root"] (spF cls K [true] .o F_lines_of) :=
  fn_sem F sc_lines_of [true] rfl .o B_lines_of fun cdv A outer s H E cf cZ cH s0 r0 hr => (
s_cons (own := [.p, .s, .s]) (s_ret (x_lc [("row", 1), ("other", 2)] rfl sc_lines_of.nd (by kernel_rfl) (i_seq rfl (EX.o2p (x_call rfl c_twenty_eight (hr.mono (by decide)) (L2N.takes_of rfl rfl rfl rfl) (m_p (x_var 0) m_nil)))) (fun _ _ _ _ _ => (g_tup rfl rfl (gs_cons (g_name 1 sc_lines_of.nd) (gs_cons (g_name 2 sc_lines_of.nd) gs_nil)))) (fun _ _ _ _ _ => t_yes) (fun _ _ _ _ _ => (EX.o2s (x_call rfl c_row_less (hr.mono (by decide)) takes0N (m_p (x_var 1) (m_p (x_var 2) m_nil)))))))
  (s_nil (own := [.p, .s, .s])))
theorem ok_triple_sign {f : Addr} {fd : FuncData} (F : Fun K "triple_sign" "triple_sign" s_triple_sign f fd) (c_row_product : Cal P w K mg base cls "row_product" 1 [true, true] .o F_row_product) :
    FnOk P w K mg base (L2N.CX P w) 2 f fd ["rows", "i", "j", "k"] (spF cls K [true, true, true, true] .o F_triple_sign) :=
  fn_sem F sc_triple_sign [true, true, true, true] rfl .o B_triple_sign fun cdv A outer s H E cf cZ cH s0 r0 hr => (
s_cons (own := [.p, .p, .p, .p, .s]) (o1 := [.p, .p, .p, .p, .s]) (s_setS 4 sc_triple_sign.nd (EX.o2s (x_mul (EX.o2p (x_mul (EX.o2p (x_call rfl c_row_product (hr.mono (by decide)) (L2N.takes_of rfl rfl rfl rfl) (m_p (EX.s2p (x_ix rfl (x_var 0) (x_var 1))) (m_p (EX.s2p (x_ix rfl (x_var 0) (x_var 2))) m_nil)))) (EX.o2p (x_call rfl c_row_product (hr.mono (by decide)) (L2N.takes_of rfl rfl rfl rfl) (m_p (EX.s2p (x_ix rfl (x_var 0) (x_var 1))) (m_p (EX.s2p (x_ix rfl (x_var 0) (x_var 3))) m_nil)))))) (EX.o2p (x_call rfl c_row_product (hr.mono (by decide)) (L2N.takes_of rfl rfl rfl rfl) (m_p (EX.s2p (x_ix rfl (x_var 0) (x_var 2))) (m_p (EX.s2p (x_ix rfl (x_var 0) (x_var 3))) m_nil)))))))
  (s_cons (own := [.p, .p, .p, .p, .s]) (o1 := [.p, .p, .p, .p, .s]) (s_if (on := [.p, .p, .p, .p, .s]) (b_gtA rfl (hu64 hr) (x_var 4) (EX.o2p x_int))
 (s_cons (own := [.p, .p, .p, .p, .s]) (s_ret x_int)
  (s_nil (own := [.p, .p, .p, .p, .s])))
 (s_nil))
  (s_cons (own := [.p, .p, .p, .p, .s]) (s_ret (x_neg (EX.o2p x_int)))
  (s_nil (own := [.p, .p, .p, .p, .s])))))
theorem ok_even_triples {f : Addr} {fd : FuncData} (F : Fun K "even_triples" "even_triples" s_even_triples f fd) (c_triple_sign : Cal P w K mg base cls "triple_sign" 2 [true, true, true, true] .o F_triple_sign) (m_range : mg "range" = none) (m_len : mg "len" = none) :
    FnOk P w K mg base (L2N.CX P w) 3 f fd ["rows"] (spF cls K [true] .s F_even_triples) :=
  fn_sem F sc_even_triples [true] rfl .s B_even_triples fun cdv A outer s H E cf cZ cH s0 r0 hr => (
s_cons (own := [.p, .s, .s, .s, .s]) (o1 := [.p, .o, .s, .s, .s]) (s_setO 1 sc_even_triples.nd x_int)
  (s_frz [1] (by decide) (s_cons (own := [.p, .s, .s, .s, .s]) (o1 := [.p, .s, .s, .s, .s]) (s_for (own := [.p, .s, .s, .s, .s]) (o1 := [.p, .s, .s, .s, .s]) (passes_of rfl) rfl (i_range1 m_range (x_cons (EX.o2p (x_len rfl m_len (x_cons (x_var 0) x_nil))) x_nil)) (g_name 2 sc_even_triples.nd)
 (s_cons (own := [.p, .s, .s, .s, .s]) (o1 := [.p, .s, .s, .s, .s]) (s_for (own := [.p, .s, .s, .s, .s]) (o1 := [.p, .s, .s, .s, .s]) (passes_of rfl) rfl (i_range1 m_range (x_cons (x_var 2) x_nil)) (g_name 3 sc_even_triples.nd)
 (s_cons (own := [.p, .s, .s, .s, .s]) (o1 := [.p, .s, .s, .s, .s]) (s_aug 1 ip_add sc_even_triples.nd (EX.o2p (x_len rfl m_len (x_cons (EX.o2p (x_lc [("i", 4)] rfl sc_even_triples.nd (by kernel_rfl) (i_range1 m_range (x_cons (x_var 3) x_nil)) (fun _ _ _ _ _ => (g_name 4 sc_even_triples.nd)) (fun _ _ _ _ _ => (t_one (b_eq rfl (hu64 hr) (EX.o2p (x_call rfl c_triple_sign (hr.mono (by decide)) takes0N (m_p (x_var 0) (m_p (x_var 4) (m_p (x_var 3) (m_p (x_var 2) m_nil)))))) (EX.o2p x_int)))) (fun _ _ _ _ _ => (x_varS 4)))) x_nil))))
  (s_nil)))
  (s_nil)))
  (s_cons (own := [.p, .s, .s, .s, .s]) (s_ret (x_varS 1))
  (s_nil (own := [.p, .s, .s, .s, .s]))))))
theorem ok_most_at_angle {f : Addr} {fd : FuncData} (F : Fun K "most_at_angle" "most_at_angle" s_most_at_angle f fd) (g_MOST_BY_RANK : ∃ u, mg "MOST_BY_RANK" = some u ∧ repB K u (.tup [.int 1, .int 2, .int 4, .int 6, .int 10, .int 16, .int 28]) = true) :
    FnOk P w K mg base (L2N.CX P w) 1 f fd ["n"] (spF cls K [true] .s F_most_at_angle) :=
  fn_sem F sc_most_at_angle [true] rfl .s B_most_at_angle fun cdv A outer s H E cf cZ cH s0 r0 hr => (
s_cons (own := [.p]) (s_ret (x_ix rfl (EX.o2p (x_gtup rfl g_MOST_BY_RANK.choose_spec.1 g_MOST_BY_RANK.choose_spec.2)) (EX.o2p (x_sub (x_var 0) (EX.o2p x_int)))))
  (s_nil (own := [.p])))
theorem ok__law_feed {f : Addr} {fd : FuncData} (F : Fun K "_law_feed" "_law_feed" s__law_feed f fd) (m_list : mg "list" = none) : FnOk P w K mg base (L2N.CX P w) 1 f fd ["script"] (spFeed K) := by
  refine okXN F sc__law_feed (fun vs H Q E h => ?_) (fun cdv A outer s H vs Q E hr h => ?_)
  · obtain ⟨a, ns, rfl, _⟩ := h
    rfl
  · exact ⟨_, pss_cons (ps_ret (pe_lst (pa_cons (pe_callTy call_list_of (by rfl) m_list (by decide +kernel) (pa_cons (pv 0) pa_nil)) (pa_cons pe_int (pa_cons pe_int (pa_cons pe_int pa_nil)))))) pss_nil, feed_read h⟩

theorem ok__law_draw {f : Addr} {fd : FuncData} (F : Fun K "_law_draw" "_law_draw" s__law_draw f fd) (m_len : mg "len" = none) (m_abs : mg "abs" = none) (m_int : mg "int" = none) :
    FnOk P w K mg base (L2N.CX P w) 1 f fd ["feed", "many"] (spF cls K [false, false] .s drawF) := by
  refine okXN F sc__law_draw (fun vs H Q E h => ?_) (fun cdv A outer s H vs Q E hr h => ?_)
  · obtain ⟨f, Z, ds, φ, _, rs, _⟩ := h
    exact rs.lens.1
  · refine ⟨tSeq (tDrawA K) (tDrawB K), pss_cons (ps_if (PW.pt (pw_and (pt_cmpR op_eq (pe_ix ix_list (pv 0) pe_int (fun _ _ => rfl)) pe_int (nomark _)) (pw_and1 (pt_cmpR op_lt (pe_ix ix_list (pv 0) pe_int (fun _ _ => rfl)) (pe_callB call_len_seq (by rfl) m_len PySem.boot_len (pa_cons (pe_ix ix_list (pv 0) pe_int (fun _ _ => rfl)) pa_nil)) (nomark _)))))
        (pss_cons (ps_set (i := 2) sc__law_draw.nd rfl (Or.inl rfl) (pe_callB call_abs (by rfl) m_abs (by decide +kernel) (pa_cons (pe_callTy call_int1 (by rfl) m_int (by decide +kernel) (pa_cons (pe_ix ix_list (pe_ix ix_list (pv 0) pe_int (fun _ _ => rfl)) (pe_ix ix_list (pv 0) pe_int (fun _ _ => rfl)) (fun _ _ => rfl)) pa_nil)) pa_nil)))
        (pss_cons (ps_augS (pv 0) pe_int get_lst pe_int ip_add set_list)
        (pss_one (ps_if (pt_cmpR op_ge (pv 2) (pe_op op_pow pe_int pe_int) (nomark _))
          (pss_one (ps_asg (pv 2) (pg_sub (pv 0) pe_int set_list)))
          (pss_one (ps_asg (pe_op op_mod (pe_callTy call_int1 (by rfl) m_int (by decide +kernel) (pa_cons (pe_op op_add (pe_op op_add (pe_op op_mul (pe_ix ix_list (pv 0) pe_int (fun _ _ => rfl)) pe_int) (pe_op op_mul (pv 2) pe_int)) (pe_ix ix_list (pv 0) pe_int (fun _ _ => rfl))) pa_nil)) pe_int) (pg_sub (pv 0) pe_int set_list)))))))
        pss_nil)
      (pss_cons (ps_if (pt_cmpR op_gt (pe_ix ix_list (pv 0) pe_int (fun _ _ => rfl)) pe_int (nomark _))
        (pss_cons (ps_set (i := 3) sc__law_draw.nd rfl (Or.inl rfl) (pe_op op_mod (pe_callTy call_int1 (by rfl) m_int (by decide +kernel) (pa_cons (pe_ix ix_list (pv 0) pe_int (fun _ _ => rfl)) pa_nil)) (pv 1)))
        (pss_cons (ps_asg (pe_op op_fdiv (pe_ix ix_list (pv 0) pe_int (fun _ _ => rfl)) (pv 1)) (pg_sub (pv 0) pe_int set_list))
        (pss_one (ps_ret (pv 3)))))
        pss_nil)
      (pss_cons (ps_asg (pe_op op_mod (pe_callTy call_int1 (by rfl) m_int (by decide +kernel) (pa_cons (pe_op op_add (pe_op op_mul (pe_ix ix_list (pv 0) pe_int (fun _ _ => rfl)) pe_int) pe_int) pa_nil)) pe_int) (pg_sub (pv 0) pe_int set_list))
      (pss_cons (ps_set (i := 4) sc__law_draw.nd rfl (Or.inl rfl) (pe_op op_mod (pe_callTy call_int1 (by rfl) m_int (by decide +kernel) (pa_cons (pe_op op_add (pe_op op_mul (pe_ix ix_list (pv 0) pe_int (fun _ _ => rfl)) (pe_ix ix_list (pv 0) pe_int (fun _ _ => rfl))) (pe_ix ix_list (pv 0) pe_int (fun _ _ => rfl))) pa_nil)) pe_int))
      (pss_one (ps_ret (pe_op op_mod (pe_op op_fdiv (pv 4) pe_int) (pv 1))))))), draw_read rfl h⟩

theorem ok__law_is_whole {f : Addr} {fd : FuncData} (F : Fun K "_law_is_whole" "_law_is_whole" s__law_is_whole f fd) (m_isinstance : mg "isinstance" = none) (m_int : mg "int" = none) (m_bool : mg "bool" = none) :
    FnOk P w K mg base (L2N.CX P w) 1 f fd ["x"] (spF cls K [true] .o F__law_is_whole) :=
  fn_sem F sc__law_is_whole [true] rfl .o B__law_is_whole fun cdv A outer s H E cf cZ cH s0 r0 hr => (
s_cons (own := [.p]) (s_ret (x_and (x_isi isi_int rfl (x_var 0) m_isinstance m_int (by decide +kernel)) (x_one (x_not (x_isi isi_bool rfl (x_var 0) m_isinstance m_bool (by decide +kernel))))))
  (s_nil (own := [.p])))
theorem ok__law_all_roots {f : Addr} {fd : FuncData} (F : Fun K "_law_all_roots" "_law_all_roots" s__law_all_roots f fd) (m_range : mg "range" = none) (m_int : mg "int" = none) (m_sum : mg "sum" = none) (m_sorted : mg "sorted" = none) :
    FnOk P w K mg base (L2N.CX P w) 1 f fd [] (spF cls K [] .o F__law_all_roots) :=
  fn_sem F sc__law_all_roots [] rfl .o B__law_all_roots fun cdv A outer s H E cf cZ cH s0 r0 hr => (
s_cons (own := [.s, .s, .s, .s, .s, .s, .s, .s]) (o1 := [.o, .s, .s, .s, .s, .s, .s, .s]) (s_setO 0 sc__law_all_roots.nd (x_lst x_nil))
  (s_cons (own := [.o, .s, .s, .s, .s, .s, .s, .s]) (o1 := [.o, .s, .s, .s, .s, .s, .s, .s]) (s_for (own := [.o, .s, .s, .s, .s, .s, .s, .s]) (o1 := [.o, .s, .s, .s, .s, .s, .s, .s]) (passes_of rfl) rfl (i_range1 m_range (x_cons (EX.o2p x_int) x_nil)) (g_name 1 sc__law_all_roots.nd)
 (s_cons (own := [.o, .s, .s, .s, .s, .s, .s, .s]) (o1 := [.o, .s, .s, .s, .s, .s, .s, .s]) (s_for (own := [.o, .s, .s, .s, .s, .s, .s, .s]) (o1 := [.o, .s, .s, .s, .s, .s, .s, .s]) (passes_of rfl) rfl (i_range1 m_range (x_cons (x_var 1) x_nil)) (g_name 2 sc__law_all_roots.nd)
 (s_cons (own := [.o, .s, .s, .s, .s, .s, .s, .s]) (o1 := [.o, .s, .s, .s, .s, .s, .s, .s]) (s_for (own := [.o, .s, .s, .s, .s, .s, .s, .s]) (o1 := [.o, .s, .s, .s, .s, .s, .s, .s]) (passes_of rfl) rfl (i_seq rfl (EX.o2s (x_lst (x_cons (x_tup (x_cons (EX.o2s x_int) (x_cons (EX.o2s x_int) x_nil))) (x_cons (x_tup (x_cons (EX.o2s x_int) (x_cons (EX.o2s (x_neg (EX.o2p x_int))) x_nil))) (x_cons (x_tup (x_cons (EX.o2s (x_neg (EX.o2p x_int))) (x_cons (EX.o2s x_int) x_nil))) (x_cons (x_tup (x_cons (EX.o2s (x_neg (EX.o2p x_int))) (x_cons (EX.o2s (x_neg (EX.o2p x_int))) x_nil))) x_nil))))))) (g_tup rfl rfl (gs_cons (g_name 3 sc__law_all_roots.nd) (gs_cons (g_name 4 sc__law_all_roots.nd) gs_nil)))
 (s_cons (own := [.o, .s, .s, .s, .s, .s, .s, .s]) (o1 := [.o, .s, .s, .s, .s, .s, .s, .s]) (s_append 0 (EX.o2s (x_lc [("k", 7)] rfl sc__law_all_roots.nd (by kernel_rfl) (i_range1 m_range (x_cons (EX.o2p x_int) x_nil)) (fun _ _ _ _ _ => (g_name 7 sc__law_all_roots.nd)) (fun _ _ _ _ _ => t_yes) (fun _ _ _ _ _ => (EX.o2s (x_add rfl (EX.o2p (x_mul (EX.o2p (x_int1 m_int (x_cons (EX.o2p (x_eq rfl (hu64 hr) (x_var 7) (x_var 2))) x_nil))) (x_var 3))) (EX.o2p (x_mul (EX.o2p (x_int1 m_int (x_cons (EX.o2p (x_eq rfl (hu64 hr) (x_var 7) (x_var 1))) x_nil))) (x_var 4)))))))))
  (s_nil)))
  (s_nil)))
  (s_nil)))
  (s_cons (own := [.o, .s, .s, .s, .s, .s, .s, .s]) (o1 := [.o, .s, .s, .s, .s, .s, .s, .s]) (s_for (own := [.o, .s, .s, .s, .s, .s, .s, .s]) (o1 := [.o, .s, .s, .s, .s, .s, .s, .s]) (passes_of rfl) rfl (i_range1 m_range (x_cons (EX.o2p x_int) x_nil)) (g_name 5 sc__law_all_roots.nd)
 (s_cons (own := [.o, .s, .s, .s, .s, .s, .s, .s]) (o1 := [.o, .s, .s, .s, .s, .s, .o, .s]) (s_setLc 6 [("k", 7)] rfl sc__law_all_roots.nd (by kernel_rfl) (i_range1 m_range (x_cons (EX.o2p x_int) x_nil)) (fun _ _ _ _ _ => (g_name 7 sc__law_all_roots.nd)) (fun _ _ _ _ _ => t_yes) (fun _ _ _ _ _ => (EX.o2s (x_sub (EX.o2p x_int) (EX.o2p (x_mul (EX.o2p x_int) (EX.o2p (x_band (EX.o2p (x_shr (x_var 5) (x_var 7))) (EX.o2p x_int)))))))))
  (s_cons (own := [.o, .s, .s, .s, .s, .s, .o, .s]) (o1 := [.o, .s, .s, .s, .s, .s, .s, .s]) (s_if (on := [.o, .s, .s, .s, .s, .s, .s, .s]) (b_eq rfl (hu64 hr) (EX.o2p (x_mod (EX.o2p (x_int1 m_int (x_cons (EX.o2p (x_sum rfl rfl m_sum (x_cons (x_var 6) x_nil))) x_nil))) (EX.o2p x_int))) (EX.o2p x_int))
 (s_frz [6] (by decide) (s_cons (own := [.o, .s, .s, .s, .s, .s, .s, .s]) (o1 := [.o, .s, .s, .s, .s, .s, .s, .s]) (s_append 0 (x_varS 6))
  (s_nil)))
 (s_end (on := [.o, .s, .s, .s, .s, .s, .o, .s]) [6] (by decide) (s_nil)))
  (s_nil))))
  (s_cons (own := [.o, .s, .s, .s, .s, .s, .s, .s]) (s_ret (x_sorted rfl (hu66 hr) m_sorted (x_cons (x_var 0) x_nil)))
  (s_nil (own := [.o, .s, .s, .s, .s, .s, .s, .s]))))))
theorem ok__law_dot {f : Addr} {fd : FuncData} (F : Fun K "_law_dot" "_law_dot" s__law_dot f fd) (m_sum : mg "sum" = none) (m_range : mg "range" = none) :
    FnOk P w K mg base (L2N.CX P w) 1 f fd ["one", "other"] (spF cls K [true, true] .o F__law_dot) :=
  fn_sem F sc__law_dot [true, true] rfl .o B__law_dot fun cdv A outer s H E cf cZ cH s0 r0 hr => (
s_cons (own := [.p, .p, .s]) (s_ret (x_div (EX.o2p (x_sum rfl rfl m_sum (x_cons (EX.o2p (x_lc [("k", 2)] rfl sc__law_dot.nd (by kernel_rfl) (i_range1 m_range (x_cons (EX.o2p x_int) x_nil)) (fun _ _ _ _ _ => (g_name 2 sc__law_dot.nd)) (fun _ _ _ _ _ => t_yes) (fun _ _ _ _ _ => (EX.o2s (x_mul (EX.s2p (x_ix rfl (x_var 0) (x_var 2))) (EX.s2p (x_ix rfl (x_var 1) (x_var 2)))))))) x_nil))) (EX.o2p x_int)))
  (s_nil (own := [.p, .p, .s])))
theorem ok__law_lines {f : Addr} {fd : FuncData} (F : Fun K "_law_lines" "_law_lines" s__law_lines f fd) (c__law_dot : Cal P w K mg base cls "_law_dot" 1 [true, true] .o F__law_dot) (m_range : mg "range" = none) :
    FnOk P w K mg base (L2N.CX P w) 2 f fd ["roots", "root"] (spF cls K [true, true] .o F__law_lines) :=
  fn_sem F sc__law_lines [true, true] rfl .o B__law_lines fun cdv A outer s H E cf cZ cH s0 r0 hr => (
s_cons (own := [.p, .p, .s, .s, .s, .s, .s]) (o1 := [.p, .p, .o, .s, .s, .s, .s]) (s_setLc 2 [("row", 4)] rfl sc__law_lines.nd (by kernel_rfl) (i_seq rfl (x_var 0)) (fun _ _ _ _ _ => (g_name 4 sc__law_lines.nd)) (fun _ _ _ _ _ => (t_one (b_eq rfl (hu64 hr) (EX.o2p (x_call rfl c__law_dot (hr.mono (by decide)) takes0N (m_p (x_var 4) (m_p (x_var 1) m_nil)))) (EX.o2p x_int)))) (fun _ _ _ _ _ => (x_varS 4)))
  (s_cons (own := [.p, .p, .o, .s, .s, .s, .s]) (o1 := [.p, .p, .o, .o, .s, .s, .s]) (s_setO 3 sc__law_lines.nd (x_lst x_nil))
  (s_frz [2] (by decide) (s_cons (own := [.p, .p, .s, .o, .s, .s, .s]) (o1 := [.p, .p, .s, .o, .s, .s, .s]) (s_for (own := [.p, .p, .s, .o, .s, .s, .s]) (o1 := [.p, .p, .s, .o, .s, .s, .s]) (passes_of rfl) rfl (i_seq rfl (x_varS 2)) (g_name 4 sc__law_lines.nd)
 (s_cons (own := [.p, .p, .s, .o, .s, .s, .s]) (o1 := [.p, .p, .s, .o, .s, .s, .s]) (s_setS 5 sc__law_lines.nd (EX.o2s (x_lc [("k", 6)] rfl sc__law_lines.nd (by kernel_rfl) (i_range1 m_range (x_cons (EX.o2p x_int) x_nil)) (fun _ _ _ _ _ => (g_name 6 sc__law_lines.nd)) (fun _ _ _ _ _ => t_yes) (fun _ _ _ _ _ => (EX.o2s (x_sub (EX.s2p (x_ix rfl (x_var 1) (x_var 6))) (EX.s2p (x_ix rfl (x_var 4) (x_var 6)))))))))
  (s_cons (own := [.p, .p, .s, .o, .s, .s, .s]) (o1 := [.p, .p, .s, .o, .s, .s, .s]) (s_if (on := [.p, .p, .s, .o, .s, .s, .s]) (b_ltA rfl (hu64 hr) (x_var 4) (x_var 5))
 (s_cons (own := [.p, .p, .s, .o, .s, .s, .s]) (o1 := [.p, .p, .s, .o, .s, .s, .s]) (s_append 3 (EX.o2s (x_lc [("k", 6)] rfl sc__law_lines.nd (by kernel_rfl) (i_range1 m_range (x_cons (EX.o2p x_int) x_nil)) (fun _ _ _ _ _ => (g_name 6 sc__law_lines.nd)) (fun _ _ _ _ _ => t_yes) (fun _ _ _ _ _ => (EX.o2s (x_sub (EX.s2p (x_ix rfl (x_var 4) (x_var 6))) (EX.s2p (x_ix rfl (x_var 5) (x_var 6)))))))))
  (s_nil))
 (s_nil))
  (s_nil))))
  (s_cons (own := [.p, .p, .s, .o, .s, .s, .s]) (s_retN 3)
  (s_nil (own := [.p, .p, .s, .o, .s, .s, .s])))))))
theorem ok__law_rank {f : Addr} {fd : FuncData} (F : Fun K "_law_rank" "_law_rank" s__law_rank f fd) (m_list : mg "list" = none) (m_range : mg "range" = none) (m_len : mg "len" = none) :
    FnOk P w K mg base (L2N.CX P w) 1 f fd ["rows"] (spF cls K [true] .s F__law_rank) :=
  fn_sem F sc__law_rank [true] rfl .s B__law_rank fun cdv A outer s H E cf cZ cH s0 r0 hr => (
s_cons (own := [.p, .s, .s, .s, .s, .s, .s, .s]) (o1 := [.p, .o, .s, .s, .s, .s, .s, .s]) (s_setO 1 sc__law_rank.nd (x_lc [("row", 6)] rfl sc__law_rank.nd (by kernel_rfl) (i_seq rfl (x_var 0)) (fun _ _ _ _ _ => (g_name 6 sc__law_rank.nd)) (fun _ _ _ _ _ => t_yes) (fun _ _ _ _ _ => (EX.o2s (x_list rfl m_list (x_cons (x_var 6) x_nil))))))
  (s_cons (own := [.p, .o, .s, .s, .s, .s, .s, .s]) (o1 := [.p, .o, .o, .s, .s, .s, .s, .s]) (s_setO 2 sc__law_rank.nd x_int)
  (s_frz [2] (by decide) (s_cons (own := [.p, .o, .s, .s, .s, .s, .s, .s]) (o1 := [.p, .o, .s, .s, .s, .s, .s, .s]) (s_for (own := [.p, .o, .s, .s, .s, .s, .s, .s]) (o1 := [.p, .o, .s, .s, .s, .s, .s, .s]) (passes_of rfl) rfl (i_range1 m_range (x_cons (EX.o2p x_int) x_nil)) (g_name 3 sc__law_rank.nd)
 (s_end (on := [.p, .o, .s, .s, .o, .s, .s, .s]) [4] (by decide) (s_cons (own := [.p, .o, .s, .s, .s, .s, .s, .s]) (o1 := [.p, .o, .s, .s, .o, .s, .s, .s]) (s_setLc 4 [("k", 7)] rfl sc__law_rank.nd (by kernel_rfl) (i_range1 m_range (x_cons (EX.o2p (x_len rfl m_len (x_cons (x_var 1) x_nil))) x_nil)) (fun _ _ _ _ _ => (g_name 7 sc__law_rank.nd)) (fun _ _ _ _ _ => (t_one (b_ne rfl (hu64 hr) (EX.s2p (x_ix rfl (EX.s2p (x_ix rfl (x_var 1) (x_var 7))) (x_var 3))) (EX.o2p x_int)))) (fun _ _ _ _ _ => (x_varS 7)))
  (s_cons (own := [.p, .o, .s, .s, .o, .s, .s, .s]) (o1 := [.p, .o, .s, .s, .o, .s, .s, .s]) (s_if (on := [.p, .o, .s, .s, .o, .s, .s, .s]) (b_gtA rfl (hu64 hr) (EX.o2p (x_len rfl m_len (x_cons (x_var 4) x_nil))) (EX.o2p x_int))
 (s_cons (own := [.p, .o, .s, .s, .o, .s, .s, .s]) (o1 := [.p, .o, .s, .s, .o, .s, .s, .s]) (s_popS 1 5 sc__law_rank.nd (EX.s2p (x_ix rfl (x_var 4) (EX.o2p x_int))))
  (s_cons (own := [.p, .o, .s, .s, .o, .s, .s, .s]) (o1 := [.p, .o, .s, .s, .o, .s, .s, .s]) (s_setO 1 sc__law_rank.nd (x_lc [("row", 6)] rfl sc__law_rank.nd (by kernel_rfl) (i_seq rfl (x_var 1)) (fun _ _ _ _ _ => (g_name 6 sc__law_rank.nd)) (fun _ _ _ _ _ => t_yes) (fun _ _ _ _ _ => (EX.o2s (x_lc [("k", 7)] rfl sc__law_rank.nd (by kernel_rfl) (i_range1 m_range (x_cons (EX.o2p x_int) x_nil)) (fun _ _ _ _ _ => (g_name 7 sc__law_rank.nd)) (fun _ _ _ _ _ => t_yes) (fun _ _ _ _ _ => (EX.o2s (x_sub (EX.o2p (x_mul (EX.s2p (x_ix rfl (x_var 6) (x_var 7))) (EX.s2p (x_ix rfl (x_var 5) (x_var 3))))) (EX.o2p (x_mul (EX.s2p (x_ix rfl (x_var 5) (x_var 7))) (EX.s2p (x_ix rfl (x_var 6) (x_var 3)))))))))))))
  (s_cons (own := [.p, .o, .s, .s, .o, .s, .s, .s]) (o1 := [.p, .o, .s, .s, .o, .s, .s, .s]) (s_aug 2 ip_add sc__law_rank.nd (EX.o2p x_int))
  (s_nil))))
 (s_nil))
  (s_nil)))))
  (s_cons (own := [.p, .o, .s, .s, .s, .s, .s, .s]) (s_ret (x_varS 2))
  (s_nil (own := [.p, .o, .s, .s, .s, .s, .s, .s])))))))
theorem ok__law_clear {f : Addr} {fd : FuncData} (F : Fun K "_law_clear" "_law_clear" s__law_clear f fd) (m_list : mg "list" = none) (m_range : mg "range" = none) (m_len : mg "len" = none) :
    FnOk P w K mg base (L2N.CX P w) 1 f fd ["rows"] (spF cls K [true] .o F__law_clear) :=
  fn_sem F sc__law_clear [true] rfl .o B__law_clear fun cdv A outer s H E cf cZ cH s0 r0 hr => (
s_cons (own := [.p, .s, .s, .s, .s, .s, .s, .s]) (o1 := [.p, .o, .s, .s, .s, .s, .s, .s]) (s_setO 1 sc__law_clear.nd (x_lst x_nil))
  (s_cons (own := [.p, .o, .s, .s, .s, .s, .s, .s]) (o1 := [.p, .o, .s, .s, .s, .s, .s, .s]) (s_for (own := [.p, .o, .s, .s, .s, .s, .s, .s]) (o1 := [.p, .o, .s, .s, .s, .s, .s, .s]) (passes_of rfl) rfl (i_seqP 0 rfl) (g_name 2 sc__law_clear.nd)
 (s_end (on := [.p, .o, .s, .s, .s, .s, .o, .s]) [6] (by decide) (s_keep (own := [.p, .o, .s, .s, .s, .s, .s, .s]) (own1 := [.p, .p, .r, .s, .s, .s, .o, .r]) 3 (by decide) (fun Z ρ σ H => s_cons (own := [.p, .p, .r, .r, .r, .r, .r, .r]) (o1 := [.p, .p, .r, .s, .r, .r, .r, .r]) (s_setS 3 sc__law_clear.nd (EX.o2s (x_list rfl m_list (x_cons (x_var 2) x_nil))))
  (s_frz [4, 5] (by decide) (s_cons (own := [.p, .p, .r, .s, .s, .s, .r, .r]) (o1 := [.p, .p, .r, .s, .s, .s, .r, .r]) (s_for (own := [.p, .p, .r, .s, .s, .s, .r, .r]) (o1 := [.p, .p, .r, .s, .s, .s, .r, .r]) (passes_of rfl) rfl (i_seqP 1 rfl) (g_tup rfl rfl (gs_cons (g_name 4 sc__law_clear.nd) (gs_cons (g_name 5 sc__law_clear.nd) gs_nil)))
 (s_cons (own := [.p, .p, .r, .s, .s, .s, .r, .r]) (o1 := [.p, .p, .r, .s, .s, .s, .r, .r]) (s_setS 3 sc__law_clear.nd (EX.o2s (x_lc [("k", 7)] rfl sc__law_clear.nd (by kernel_rfl) (i_range1 m_range (x_cons (EX.o2p x_int) x_nil)) (fun _ _ _ _ _ => (g_name 7 sc__law_clear.nd)) (fun _ _ _ _ _ => t_yes) (fun _ _ _ _ _ => (EX.o2s (x_sub (EX.o2p (x_mul (EX.s2p (x_ix rfl (x_var 3) (x_var 7))) (EX.s2p (x_ix rfl (x_var 4) (x_var 5))))) (EX.o2p (x_mul (EX.s2p (x_ix rfl (x_var 4) (x_var 7))) (EX.s2p (x_ix rfl (x_var 3) (x_var 5)))))))))))
  (s_nil)))
  (s_cons (own := [.p, .p, .r, .s, .s, .s, .r, .r]) (o1 := [.p, .p, .r, .s, .s, .s, .o, .r]) (s_setLc 6 [("k", 7)] rfl sc__law_clear.nd (by kernel_rfl) (i_range1 m_range (x_cons (EX.o2p x_int) x_nil)) (fun _ _ _ _ _ => (g_name 7 sc__law_clear.nd)) (fun _ _ _ _ _ => (t_one (b_ne rfl (hu64 hr) (EX.s2p (x_ix rfl (x_var 3) (x_var 7))) (EX.o2p x_int)))) (fun _ _ _ _ _ => (x_varS 7)))
  (s_nil)))))
  (s_cons (own := [.p, .o, .s, .s, .s, .s, .o, .s]) (o1 := [.p, .o, .s, .s, .s, .s, .o, .s]) (s_if (on := [.p, .o, .s, .s, .s, .s, .o, .s]) (b_gtA rfl (hu64 hr) (EX.o2p (x_len rfl m_len (x_cons (x_var 6) x_nil))) (EX.o2p x_int))
 (s_cons (own := [.p, .o, .s, .s, .s, .s, .o, .s]) (o1 := [.p, .o, .s, .s, .s, .s, .o, .s]) (s_append 1 (x_tup (x_cons (x_varS 3) (x_cons (x_ix rfl (x_var 6) (EX.o2p x_int)) x_nil))))
  (s_nil))
 (s_nil))
  (s_nil)))))
  (s_cons (own := [.p, .o, .s, .s, .s, .s, .s, .s]) (s_retN 1)
  (s_nil (own := [.p, .o, .s, .s, .s, .s, .s, .s])))))
theorem ok__law_spanned {f : Addr} {fd : FuncData} (F : Fun K "_law_spanned" "_law_spanned" s__law_spanned f fd) (c__law_clear : Cal P w K mg base cls "_law_clear" 1 [true] .o F__law_clear) (m_list : mg "list" = none) (m_range : mg "range" = none) (m_int : mg "int" = none) (m_len : mg "len" = none) :
    FnOk P w K mg base (L2N.CX P w) 2 f fd ["rows", "lines"] (spF cls K [true, true] .o F__law_spanned) :=
  fn_sem F sc__law_spanned [true, true] rfl .o B__law_spanned fun cdv A outer s H E cf cZ cH s0 r0 hr => (
s_cons (own := [.p, .p, .s, .s, .s, .s, .s, .s, .s, .s]) (o1 := [.p, .p, .s, .s, .s, .s, .s, .s, .s, .s]) (s_setS 2 sc__law_spanned.nd (EX.o2s (x_call rfl c__law_clear (hr.mono (by decide)) (L2N.takes_of rfl rfl rfl rfl) (m_p (x_var 0) m_nil))))
  (s_cons (own := [.p, .p, .s, .s, .s, .s, .s, .s, .s, .s]) (o1 := [.p, .p, .s, .s, .s, .s, .s, .s, .s, .s]) (s_setS 3 sc__law_spanned.nd (EX.o2s x_int))
  (s_cons (own := [.p, .p, .s, .s, .s, .s, .s, .s, .s, .s]) (o1 := [.p, .p, .s, .s, .s, .s, .s, .s, .s, .s]) (s_for (own := [.p, .p, .s, .s, .s, .s, .s, .s, .s, .s]) (o1 := [.p, .p, .s, .s, .s, .s, .s, .s, .s, .s]) (passes_of rfl) rfl (i_seqP 1 rfl) (g_name 4 sc__law_spanned.nd)
 (s_cons (own := [.p, .p, .s, .s, .s, .s, .s, .s, .s, .s]) (o1 := [.p, .p, .s, .s, .s, .s, .s, .s, .s, .s]) (s_setS 5 sc__law_spanned.nd (EX.o2s (x_list rfl m_list (x_cons (x_var 4) x_nil))))
  (s_cons (own := [.p, .p, .s, .s, .s, .s, .s, .s, .s, .s]) (o1 := [.p, .p, .s, .s, .s, .s, .s, .s, .s, .s]) (s_for (own := [.p, .p, .s, .s, .s, .s, .s, .s, .s, .s]) (o1 := [.p, .p, .s, .s, .s, .s, .s, .s, .s, .s]) (passes_of rfl) rfl (i_seq rfl (x_varS 2)) (g_tup rfl rfl (gs_cons (g_name 6 sc__law_spanned.nd) (gs_cons (g_name 7 sc__law_spanned.nd) gs_nil)))
 (s_cons (own := [.p, .p, .s, .s, .s, .s, .s, .s, .s, .s]) (o1 := [.p, .p, .s, .s, .s, .s, .s, .s, .s, .s]) (s_setS 5 sc__law_spanned.nd (EX.o2s (x_lc [("k", 8)] rfl sc__law_spanned.nd (by kernel_rfl) (i_range1 m_range (x_cons (EX.o2p x_int) x_nil)) (fun _ _ _ _ _ => (g_name 8 sc__law_spanned.nd)) (fun _ _ _ _ _ => t_yes) (fun _ _ _ _ _ => (EX.o2s (x_sub (EX.o2p (x_mul (EX.s2p (x_ix rfl (x_var 5) (x_var 8))) (EX.s2p (x_ix rfl (x_var 6) (x_var 7))))) (EX.o2p (x_mul (EX.s2p (x_ix rfl (x_var 6) (x_var 8))) (EX.s2p (x_ix rfl (x_var 5) (x_var 7)))))))))))
  (s_nil)))
  (s_cons (own := [.p, .p, .s, .s, .s, .s, .s, .s, .s, .s]) (o1 := [.p, .p, .s, .s, .s, .s, .s, .s, .s, .s]) (s_aug 3 ip_add sc__law_spanned.nd (EX.o2p (x_int1 m_int (x_cons (EX.o2p (x_eq rfl (hu64 hr) (EX.o2p (x_len rfl m_len (x_cons (EX.o2p (x_lc [("x", 9)] rfl sc__law_spanned.nd (by kernel_rfl) (i_seq rfl (x_var 5)) (fun _ _ _ _ _ => (g_name 9 sc__law_spanned.nd)) (fun _ _ _ _ _ => (t_one (b_ne rfl (hu64 hr) (x_var 9) (EX.o2p x_int)))) (fun _ _ _ _ _ => (x_varS 9)))) x_nil))) (EX.o2p x_int))) x_nil))))
  (s_nil)))))
  (s_cons (own := [.p, .p, .s, .s, .s, .s, .s, .s, .s, .s]) (s_ret (x_tup (x_cons (EX.o2s (x_len rfl m_len (x_cons (x_var 2) x_nil))) (x_cons (x_varS 3) x_nil))))
  (s_nil (own := [.p, .p, .s, .s, .s, .s, .s, .s, .s, .s]))))))
theorem ok__law_signs {f : Addr} {fd : FuncData} (F : Fun K "_law_signs" "_law_signs" s__law_signs f fd) (c__law_dot : Cal P w K mg base cls "_law_dot" 1 [true, true] .o F__law_dot) (m_len : mg "len" = none) (m_range : mg "range" = none) :
    FnOk P w K mg base (L2N.CX P w) 2 f fd ["rows"] (spF cls K [true] .s F__law_signs) :=
  fn_sem F sc__law_signs [true] rfl .s B__law_signs fun cdv A outer s H E cf cZ cH s0 r0 hr => (
s_cons (own := [.p, .s, .s, .s, .s, .s, .s, .s, .s]) (o1 := [.p, .s, .s, .s, .s, .s, .s, .s, .s]) (s_setS 1 sc__law_signs.nd (EX.o2s (x_len rfl m_len (x_cons (x_var 0) x_nil))))
  (s_cons (own := [.p, .s, .s, .s, .s, .s, .s, .s, .s]) (o1 := [.p, .s, .s, .s, .s, .s, .s, .s, .s]) (s_setS 2 sc__law_signs.nd (EX.o2s (x_lc [("one", 6)] rfl sc__law_signs.nd (by kernel_rfl) (i_seq rfl (x_var 0)) (fun _ _ _ _ _ => (g_name 6 sc__law_signs.nd)) (fun _ _ _ _ _ => t_yes) (fun _ _ _ _ _ => (EX.o2s (x_lc [("other", 7)] rfl sc__law_signs.nd (by kernel_rfl) (i_seq rfl (x_var 0)) (fun _ _ _ _ _ => (g_name 7 sc__law_signs.nd)) (fun _ _ _ _ _ => t_yes) (fun _ _ _ _ _ => (EX.o2s (x_call rfl c__law_dot (hr.mono (by decide)) takes0N (m_p (x_var 6) (m_p (x_var 7) m_nil)))))))))))
  (s_cons (own := [.p, .s, .s, .s, .s, .s, .s, .s, .s]) (o1 := [.p, .s, .s, .o, .s, .s, .s, .s, .s]) (s_setO 3 sc__law_signs.nd x_int)
  (s_frz [3] (by decide) (s_cons (own := [.p, .s, .s, .s, .s, .s, .s, .s, .s]) (o1 := [.p, .s, .s, .s, .s, .s, .s, .s, .s]) (s_for (own := [.p, .s, .s, .s, .s, .s, .s, .s, .s]) (o1 := [.p, .s, .s, .s, .s, .s, .s, .s, .s]) (passes_of rfl) rfl (i_range1 m_range (x_cons (x_var 1) x_nil)) (g_name 4 sc__law_signs.nd)
 (s_cons (own := [.p, .s, .s, .s, .s, .s, .s, .s, .s]) (o1 := [.p, .s, .s, .s, .s, .s, .s, .s, .s]) (s_for (own := [.p, .s, .s, .s, .s, .s, .s, .s, .s]) (o1 := [.p, .s, .s, .s, .s, .s, .s, .s, .s]) (passes_of rfl) rfl (i_range2 m_range (x_cons (EX.o2p (x_add rfl (x_var 4) (EX.o2p x_int))) (x_cons (x_var 1) x_nil))) (g_name 5 sc__law_signs.nd)
 (s_cons (own := [.p, .s, .s, .s, .s, .s, .s, .s, .s]) (o1 := [.p, .s, .s, .s, .s, .s, .s, .s, .s]) (s_aug 3 ip_add sc__law_signs.nd (EX.o2p (x_len rfl m_len (x_cons (EX.o2p (x_lc [("k", 8)] rfl sc__law_signs.nd (by kernel_rfl) (i_range2 m_range (x_cons (EX.o2p (x_add rfl (x_var 5) (EX.o2p x_int))) (x_cons (x_var 1) x_nil))) (fun _ _ _ _ _ => (g_name 8 sc__law_signs.nd)) (fun _ _ _ _ _ => (t_one (b_gtA rfl (hu64 hr) (EX.o2p (x_mul (EX.o2p (x_mul (EX.s2p (x_ix rfl (EX.s2p (x_ix rfl (x_var 2) (x_var 4))) (x_var 5))) (EX.s2p (x_ix rfl (EX.s2p (x_ix rfl (x_var 2) (x_var 4))) (x_var 8))))) (EX.s2p (x_ix rfl (EX.s2p (x_ix rfl (x_var 2) (x_var 5))) (x_var 8))))) (EX.o2p x_int)))) (fun _ _ _ _ _ => (x_varS 8)))) x_nil))))
  (s_nil)))
  (s_nil)))
  (s_cons (own := [.p, .s, .s, .s, .s, .s, .s, .s, .s]) (s_ret (x_varS 3))
  (s_nil (own := [.p, .s, .s, .s, .s, .s, .s, .s, .s]))))))))
theorem ok__law_chosen {f : Addr} {fd : FuncData} (F : Fun K "_law_chosen" "_law_chosen" s__law_chosen f fd) (c__law_dot : Cal P w K mg base cls "_law_dot" 1 [true, true] .o F__law_dot) (c__law_draw : Cal P w K mg base cls "_law_draw" 1 [false, false] .s F__law_draw) (m_len : mg "len" = none) :
    FnOk P w K mg base (L2N.CX P w) 2 f fd ["feed", "roots", "root", "lines"] (spF cls K [false, true, true, true] .o F__law_chosen) :=
  fn_sem F sc__law_chosen [false, true, true, true] rfl .o B__law_chosen fun cdv A outer s H E cf cZ cH s0 r0 hr => (
s_cons (own := [.s, .p, .p, .p, .s, .s, .s, .s, .s, .s, .s, .s, .s]) (o1 := [.s, .p, .p, .p, .o, .s, .s, .s, .s, .s, .s, .s, .s]) (s_setO 4 sc__law_chosen.nd (x_lst x_nil))
  (s_cons (own := [.s, .p, .p, .p, .o, .s, .s, .s, .s, .s, .s, .s, .s]) (o1 := [.s, .p, .p, .p, .o, .o, .s, .s, .s, .s, .s, .s, .s]) (s_setO 5 sc__law_chosen.nd (x_lst (x_cons (EX.o2s x_int) x_nil)))
  (s_cons (own := [.s, .p, .p, .p, .o, .o, .s, .s, .s, .s, .s, .s, .s]) (o1 := [.s, .p, .p, .p, .o, .o, .o, .s, .s, .s, .s, .s, .s]) (s_setLc 6 [("row", 11)] rfl sc__law_chosen.nd (by kernel_rfl) (i_seq rfl (x_var 1)) (fun _ _ _ _ _ => (g_name 11 sc__law_chosen.nd)) (fun _ _ _ _ _ => (t_one (b_eq rfl (hu64 hr) (EX.o2p (x_call rfl c__law_dot (hr.mono (by decide)) takes0N (m_p (x_var 11) (m_p (x_var 2) m_nil)))) (EX.o2p x_int)))) (fun _ _ _ _ _ => (x_varS 11)))
  (s_cons (own := [.s, .p, .p, .p, .o, .o, .o, .s, .s, .s, .s, .s, .s]) (o1 := [.s, .p, .p, .p, .o, .o, .o, .s, .s, .s, .s, .s, .s]) (s_setS 7 sc__law_chosen.nd (EX.o2s (x_lst (x_cons (EX.o2s (x_lst x_nil)) (x_cons (EX.o2s (x_lst (x_cons (EX.o2s (x_neg (EX.o2p x_int))) x_nil))) (x_cons (EX.o2s (x_lst (x_cons (EX.o2s x_int) (x_cons (EX.o2s (x_neg (EX.o2p x_int))) x_nil)))) (x_cons (EX.o2s (x_lst (x_cons (EX.o2s x_int) (x_cons (EX.o2s (x_neg (EX.o2p x_int))) (x_cons (EX.o2s x_int) x_nil))))) (x_cons (EX.o2s (x_lst (x_cons (EX.o2s x_int) (x_cons (EX.o2s x_int) (x_cons (EX.o2s (x_neg (EX.o2p x_int))) (x_cons (EX.o2s x_int) x_nil)))))) (x_cons (EX.o2s (x_lst (x_cons (EX.o2s (x_neg (EX.o2p x_int))) (x_cons (EX.o2s x_int) (x_cons (EX.o2s x_int) (x_cons (EX.o2s x_int) (x_cons (EX.o2s x_int) x_nil))))))) x_nil)))))))))
  (s_cons (own := [.s, .p, .p, .p, .o, .o, .o, .s, .s, .s, .s, .s, .s]) (o1 := [.s, .p, .p, .p, .o, .o, .o, .s, .s, .s, .s, .s, .s]) (s_for (own := [.s, .p, .p, .p, .o, .o, .o, .s, .s, .s, .s, .s, .s]) (o1 := [.s, .p, .p, .p, .o, .o, .o, .s, .s, .s, .s, .s, .s]) (passes_of rfl) rfl (i_seq rfl (x_varS 7)) (g_name 8 sc__law_chosen.nd)
 (s_end (on := [.s, .p, .p, .p, .o, .o, .o, .s, .s, .o, .o, .s, .s]) [9, 10] (by decide) (s_cons (own := [.s, .p, .p, .p, .o, .o, .o, .s, .s, .s, .s, .s, .s]) (o1 := [.s, .p, .p, .p, .o, .o, .o, .s, .s, .o, .s, .s, .s]) (s_setLc 9 [("row", 11)] rfl sc__law_chosen.nd (by kernel_rfl) (i_seq rfl (x_var 6)) (fun _ _ _ _ _ => (g_name 11 sc__law_chosen.nd)) (fun _ _ _ _ _ => (t_one (b_eq rfl (hu64 hr) (EX.o2p (x_lc [("one", 12)] rfl sc__law_chosen.nd (by kernel_rfl) (i_seq rfl (x_var 4)) (fun _ _ _ _ _ => (g_name 12 sc__law_chosen.nd)) (fun _ _ _ _ _ => t_yes) (fun _ _ _ _ _ => (EX.o2s (x_call rfl c__law_dot (hr.mono (by decide)) takes0N (m_p (x_var 11) (m_p (x_var 12) m_nil))))))) (x_var 8)))) (fun _ _ _ _ _ => (x_varS 11)))
  (s_cons (own := [.s, .p, .p, .p, .o, .o, .o, .s, .s, .o, .s, .s, .s]) (o1 := [.s, .p, .p, .p, .o, .o, .o, .s, .s, .o, .s, .s, .s]) (s_if (on := [.s, .p, .p, .p, .o, .o, .o, .s, .s, .o, .s, .s, .s]) (b_eq rfl (hu64 hr) (EX.o2p (x_len rfl m_len (x_cons (x_var 9) x_nil))) (EX.o2p x_int))
 (s_cons (own := [.s, .p, .p, .p, .o, .o, .o, .s, .s, .o, .s, .s, .s]) (s_ret x_non)
  (s_nil (own := [.s, .p, .p, .p, .o, .o, .o, .s, .s, .o, .s, .s, .s])))
 (s_nil))
  (s_cons (own := [.s, .p, .p, .p, .o, .o, .o, .s, .s, .o, .s, .s, .s]) (o1 := [.s, .p, .p, .p, .o, .o, .o, .s, .s, .o, .s, .s, .s]) (s_append 4 (x_ix rfl (x_var 9) (EX.s2p (x_call rfl c__law_draw (hr.mono (by decide)) (L2N.takes_of rfl rfl rfl rfl) (m_s (x_varS 0) (m_s (EX.o2s (x_len rfl m_len (x_cons (x_var 9) x_nil))) m_nil))))))
  (s_cons (own := [.s, .p, .p, .p, .o, .o, .o, .s, .s, .o, .s, .s, .s]) (o1 := [.s, .p, .p, .p, .o, .o, .o, .s, .s, .o, .o, .s, .s]) (s_setLc 10 [("row", 11)] rfl sc__law_chosen.nd (by kernel_rfl) (i_seq rfl (x_var 3)) (fun _ _ _ _ _ => (g_name 11 sc__law_chosen.nd)) (fun _ _ _ _ _ => (t_one (b_eq rfl (hu64 hr) (EX.o2p (x_len rfl m_len (x_cons (EX.o2p (x_lc [("one", 12)] rfl sc__law_chosen.nd (by kernel_rfl) (i_seq rfl (x_var 4)) (fun _ _ _ _ _ => (g_name 12 sc__law_chosen.nd)) (fun _ _ _ _ _ => (t_one (b_ne rfl (hu64 hr) (EX.o2p (x_call rfl c__law_dot (hr.mono (by decide)) takes0N (m_p (x_var 11) (m_p (x_var 12) m_nil)))) (EX.o2p x_int)))) (fun _ _ _ _ _ => (x_varS 12)))) x_nil))) (EX.o2p x_int)))) (fun _ _ _ _ _ => (x_varS 11)))
  (s_cons (own := [.s, .p, .p, .p, .o, .o, .o, .s, .s, .o, .o, .s, .s]) (o1 := [.s, .p, .p, .p, .o, .o, .o, .s, .s, .o, .o, .s, .s]) (s_append 5 (EX.o2s (x_len rfl m_len (x_cons (x_var 10) x_nil))))
  (s_nil))))))))
  (s_cons (own := [.s, .p, .p, .p, .o, .o, .o, .s, .s, .s, .s, .s, .s]) (s_retN 5)
  (s_nil (own := [.s, .p, .p, .p, .o, .o, .o, .s, .s, .s, .s, .s, .s]))))))))
theorem ok__law_right {f : Addr} {fd : FuncData} (F : Fun K "_law_right" "_law_right" s__law_right f fd) (c__law_lines : Cal P w K mg base cls "_law_lines" 2 [true, true] .o F__law_lines) (c_lines_of : Cal P w K mg base cls "lines_of" 6 [true] .o F_lines_of) (c__law_is_whole : Cal P w K mg base cls "_law_is_whole" 1 [true] .o F__law_is_whole) (c__law_dot : Cal P w K mg base cls "_law_dot" 1 [true, true] .o F__law_dot) (c__law_rank : Cal P w K mg base cls "_law_rank" 1 [true] .s F__law_rank) (c__law_draw : Cal P w K mg base cls "_law_draw" 1 [false, false] .s F__law_draw) (c_even_triples : Cal P w K mg base cls "even_triples" 3 [true] .s F_even_triples) (c__law_signs : Cal P w K mg base cls "_law_signs" 2 [true] .s F__law_signs) (c_triple_sign : Cal P w K mg base cls "triple_sign" 2 [true, true, true, true] .o F_triple_sign) (c__law_spanned : Cal P w K mg base cls "_law_spanned" 2 [true, true] .o F__law_spanned) (c_most_at_angle : Cal P w K mg base cls "most_at_angle" 1 [true] .s F_most_at_angle) (c__law_chosen : Cal P w K mg base cls "_law_chosen" 2 [false, true, true, true] .o F__law_chosen) (m_list : mg "list" = none) (m_isinstance : mg "isinstance" = none) (m_len : mg "len" = none) (m_range : mg "range" = none) (m_abs : mg "abs" = none) (m_int : mg "int" = none) :
    FnOk P w K mg base (L2N.CX P w) 7 f fd ["feed", "roots", "root"] (spF cls K [false, true, true] .o F__law_right) :=
  fn_sem F sc__law_right [false, true, true] rfl .o B__law_right fun cdv A outer s H E cf cZ cH s0 r0 hr => (
s_cons (own := [.s, .p, .p, .s, .s, .s, .s, .s, .s, .s, .s, .s, .s, .s, .s, .s, .s, .s, .s, .s, .s, .s]) (o1 := [.s, .p, .p, .o, .s, .s, .s, .s, .s, .s, .s, .s, .s, .s, .s, .s, .s, .s, .s, .s, .s, .s]) (s_setO 3 sc__law_right.nd (x_list rfl m_list (x_cons (x_var 2) x_nil)))
  (s_cons (own := [.s, .p, .p, .o, .s, .s, .s, .s, .s, .s, .s, .s, .s, .s, .s, .s, .s, .s, .s, .s, .s, .s]) (o1 := [.s, .p, .p, .o, .s, .s, .s, .s, .s, .s, .s, .s, .s, .s, .s, .s, .s, .s, .s, .s, .s, .s]) (s_setS 4 sc__law_right.nd (EX.o2s (x_call rfl c__law_lines (hr.mono (by decide)) (L2N.takes_of rfl rfl rfl rfl) (m_p (x_var 1) (m_p (x_var 2) m_nil)))))
  (s_cons (own := [.s, .p, .p, .o, .s, .s, .s, .s, .s, .s, .s, .s, .s, .s, .s, .s, .s, .s, .s, .s, .s, .s]) (o1 := [.s, .p, .p, .o, .s, .s, .s, .s, .s, .s, .s, .s, .s, .s, .s, .s, .s, .s, .s, .s, .s, .s]) (s_setS 5 sc__law_right.nd (EX.o2s (x_call rfl c_lines_of (hr.mono (by decide)) (L2N.takes_of rfl rfl rfl rfl) (m_p (x_var 3) m_nil))))
  (s_cons (own := [.s, .p, .p, .o, .s, .s, .s, .s, .s, .s, .s, .s, .s, .s, .s, .s, .s, .s, .s, .s, .s, .s]) (o1 := [.s, .p, .p, .o, .s, .s, .s, .s, .s, .s, .s, .s, .s, .s, .s, .s, .s, .s, .s, .s, .s, .s]) (s_if (on := [.s, .p, .p, .o, .s, .s, .s, .s, .s, .s, .s, .s, .s, .s, .s, .s, .s, .s, .s, .s, .s, .s]) (b_pw (w_or (b_not (b_tru rfl (x_isi isi_list rfl (x_var 5) m_isinstance m_list (by decide +kernel)))) (w_or (b_ne rfl (hu64 hr) (x_var 5) (x_var 4)) (w_or (b_ne rfl (hu64 hr) (x_var 3) (x_var 2)) (w_or1 (b_ne rfl (hu64 hr) (EX.o2p (x_len rfl m_len (x_cons (x_var 5) x_nil))) (EX.o2p x_int)))))))
 (s_cons (own := [.s, .p, .p, .o, .s, .s, .s, .s, .s, .s, .s, .s, .s, .s, .s, .s, .s, .s, .s, .s, .s, .s]) (s_ret x_bl)
  (s_nil (own := [.s, .p, .p, .o, .s, .s, .s, .s, .s, .s, .s, .s, .s, .s, .s, .s, .s, .s, .s, .s, .s, .s])))
 (s_nil))
  (s_cons (own := [.s, .p, .p, .o, .s, .s, .s, .s, .s, .s, .s, .s, .s, .s, .s, .s, .s, .s, .s, .s, .s, .s]) (o1 := [.s, .p, .p, .o, .s, .s, .s, .s, .s, .s, .s, .s, .s, .s, .s, .s, .s, .s, .s, .s, .s, .s]) (s_for (own := [.s, .p, .p, .o, .s, .s, .s, .s, .s, .s, .s, .s, .s, .s, .s, .s, .s, .s, .s, .s, .s, .s]) (o1 := [.s, .p, .p, .o, .s, .s, .s, .s, .s, .s, .s, .s, .s, .s, .s, .s, .s, .s, .s, .s, .s, .s]) (passes_of rfl) rfl (i_range1 m_range (x_cons (EX.o2p x_int) x_nil)) (g_name 6 sc__law_right.nd)
 (s_cons (own := [.s, .p, .p, .o, .s, .s, .s, .s, .s, .s, .s, .s, .s, .s, .s, .s, .s, .s, .s, .s, .s, .s]) (o1 := [.s, .p, .p, .o, .s, .s, .s, .s, .s, .s, .s, .s, .s, .s, .s, .s, .s, .s, .s, .s, .s, .s]) (s_setS 7 sc__law_right.nd (x_ix rfl (x_var 5) (x_var 6)))
  (s_cons (own := [.s, .p, .p, .o, .s, .s, .s, .s, .s, .s, .s, .s, .s, .s, .s, .s, .s, .s, .s, .s, .s, .s]) (o1 := [.s, .p, .p, .o, .s, .s, .s, .s, .s, .s, .s, .s, .s, .s, .s, .s, .s, .s, .s, .s, .s, .s]) (s_if (on := [.s, .p, .p, .o, .s, .s, .s, .s, .s, .s, .s, .s, .s, .s, .s, .s, .s, .s, .s, .s, .s, .s]) (b_pw (w_or (b_not (b_tru rfl (x_isi isi_list rfl (x_var 7) m_isinstance m_list (by decide +kernel)))) (w_or (b_gtA rfl (hu64 hr) (EX.o2p (x_len rfl m_len (x_cons (EX.o2p (x_lc [("x", 21)] rfl sc__law_right.nd (by kernel_rfl) (i_seq rfl (x_var 7)) (fun _ _ _ _ _ => (g_name 21 sc__law_right.nd)) (fun _ _ _ _ _ => (t_one (b_not (b_tru rfl (EX.o2p (x_call rfl c__law_is_whole (hr.mono (by decide)) takes0N (m_p (x_var 21) m_nil))))))) (fun _ _ _ _ _ => (x_varS 21)))) x_nil))) (EX.o2p x_int)) (w_or (b_ne rfl (hu64 hr) (EX.o2p (x_call rfl c__law_dot (hr.mono (by decide)) (L2N.takes_of rfl rfl rfl rfl) (m_p (x_var 7) (m_p (x_var 7) m_nil)))) (EX.o2p x_int)) (w_or1 (b_ne rfl (hu64 hr) (EX.o2p (x_call rfl c__law_dot (hr.mono (by decide)) (L2N.takes_of rfl rfl rfl rfl) (m_p (x_var 7) (m_p (x_var 2) m_nil)))) (EX.o2p x_int)))))))
 (s_cons (own := [.s, .p, .p, .o, .s, .s, .s, .s, .s, .s, .s, .s, .s, .s, .s, .s, .s, .s, .s, .s, .s, .s]) (s_ret x_bl)
  (s_nil (own := [.s, .p, .p, .o, .s, .s, .s, .s, .s, .s, .s, .s, .s, .s, .s, .s, .s, .s, .s, .s, .s, .s])))
 (s_nil))
  (s_cons (own := [.s, .p, .p, .o, .s, .s, .s, .s, .s, .s, .s, .s, .s, .s, .s, .s, .s, .s, .s, .s, .s, .s]) (o1 := [.s, .p, .p, .o, .s, .s, .s, .s, .s, .s, .s, .s, .s, .s, .s, .s, .s, .s, .s, .s, .s, .s]) (s_if (on := [.s, .p, .p, .o, .s, .s, .s, .s, .s, .s, .s, .s, .s, .s, .s, .s, .s, .s, .s, .s, .s, .s]) (b_gtA rfl (hu64 hr) (EX.o2p (x_len rfl m_len (x_cons (EX.o2p (x_lc [("i", 14)] rfl sc__law_right.nd (by kernel_rfl) (i_range1 m_range (x_cons (x_var 6) x_nil)) (fun _ _ _ _ _ => (g_name 14 sc__law_right.nd)) (fun _ _ _ _ _ => (t_one (b_ne rfl (hu64 hr) (EX.o2p (x_abs m_abs (x_cons (EX.o2p (x_call rfl c__law_dot (hr.mono (by decide)) takes0N (m_p (EX.s2p (x_ix rfl (x_var 5) (x_var 14))) (m_p (x_var 7) m_nil)))) x_nil))) (EX.o2p x_int)))) (fun _ _ _ _ _ => (x_varS 14)))) x_nil))) (EX.o2p x_int))
 (s_cons (own := [.s, .p, .p, .o, .s, .s, .s, .s, .s, .s, .s, .s, .s, .s, .s, .s, .s, .s, .s, .s, .s, .s]) (s_ret x_bl)
  (s_nil (own := [.s, .p, .p, .o, .s, .s, .s, .s, .s, .s, .s, .s, .s, .s, .s, .s, .s, .s, .s, .s, .s, .s])))
 (s_nil))
  (s_nil)))))
  (s_cons (own := [.s, .p, .p, .o, .s, .s, .s, .s, .s, .s, .s, .s, .s, .s, .s, .s, .s, .s, .s, .s, .s, .s]) (o1 := [.s, .p, .p, .o, .s, .s, .s, .s, .s, .s, .s, .s, .s, .s, .s, .s, .s, .s, .s, .s, .s, .s]) (s_if (on := [.s, .p, .p, .o, .s, .s, .s, .s, .s, .s, .s, .s, .s, .s, .s, .s, .s, .s, .s, .s, .s, .s]) (b_ne rfl (hu64 hr) (EX.s2p (x_call rfl c__law_rank (hr.mono (by decide)) (L2N.takes_of rfl rfl rfl rfl) (m_p (x_var 5) m_nil))) (EX.o2p x_int))
 (s_cons (own := [.s, .p, .p, .o, .s, .s, .s, .s, .s, .s, .s, .s, .s, .s, .s, .s, .s, .s, .s, .s, .s, .s]) (s_ret x_bl)
  (s_nil (own := [.s, .p, .p, .o, .s, .s, .s, .s, .s, .s, .s, .s, .s, .s, .s, .s, .s, .s, .s, .s, .s, .s])))
 (s_nil))
  (s_cons (own := [.s, .p, .p, .o, .s, .s, .s, .s, .s, .s, .s, .s, .s, .s, .s, .s, .s, .s, .s, .s, .s, .s]) (o1 := [.s, .p, .p, .o, .s, .s, .s, .s, .o, .s, .s, .s, .s, .s, .s, .s, .s, .s, .s, .s, .s, .s]) (s_setO 8 sc__law_right.nd (x_lst x_nil))
  (s_cons (own := [.s, .p, .p, .o, .s, .s, .s, .s, .o, .s, .s, .s, .s, .s, .s, .s, .s, .s, .s, .s, .s, .s]) (o1 := [.s, .p, .p, .o, .s, .s, .s, .s, .o, .o, .s, .s, .s, .s, .s, .s, .s, .s, .s, .s, .s, .s]) (s_setO 9 sc__law_right.nd (x_list rfl m_list (x_cons (x_var 4) x_nil)))
  (s_cons (own := [.s, .p, .p, .o, .s, .s, .s, .s, .o, .o, .s, .s, .s, .s, .s, .s, .s, .s, .s, .s, .s, .s]) (o1 := [.s, .p, .p, .o, .s, .s, .s, .s, .o, .o, .s, .s, .s, .s, .s, .s, .s, .s, .s, .s, .s, .s]) (s_for (own := [.s, .p, .p, .o, .s, .s, .s, .s, .o, .o, .s, .s, .s, .s, .s, .s, .s, .s, .s, .s, .s, .s]) (o1 := [.s, .p, .p, .o, .s, .s, .s, .s, .o, .o, .s, .s, .s, .s, .s, .s, .s, .s, .s, .s, .s, .s]) (passes_of rfl) rfl (i_range1 m_range (x_cons (EX.o2p (x_add rfl (EX.o2p x_int) (EX.s2p (x_call rfl c__law_draw (hr.mono (by decide)) (L2N.takes_of rfl rfl rfl rfl) (m_s (x_varS 0) (m_s (EX.o2s x_int) m_nil)))))) x_nil)) (g_name 10 sc__law_right.nd)
 (s_cons (own := [.s, .p, .p, .o, .s, .s, .s, .s, .o, .o, .s, .s, .s, .s, .s, .s, .s, .s, .s, .s, .s, .s]) (o1 := [.s, .p, .p, .o, .s, .s, .s, .s, .o, .o, .s, .s, .s, .s, .s, .s, .s, .s, .s, .s, .s, .s]) (s_popA 8 9 (EX.s2p (x_call rfl c__law_draw (hr.mono (by decide)) (L2N.takes_of rfl rfl rfl rfl) (m_s (x_varS 0) (m_s (EX.o2s (x_len rfl m_len (x_cons (x_var 9) x_nil))) m_nil)))))
  (s_nil)))
  (s_cons (own := [.s, .p, .p, .o, .s, .s, .s, .s, .o, .o, .s, .s, .s, .s, .s, .s, .s, .s, .s, .s, .s, .s]) (o1 := [.s, .p, .p, .o, .s, .s, .s, .s, .o, .o, .s, .o, .s, .s, .s, .s, .s, .s, .s, .s, .s, .s]) (s_setLc 11 [("row", 7)] rfl sc__law_right.nd (by kernel_rfl) (i_seq rfl (x_var 8)) (fun _ _ _ _ _ => (g_name 7 sc__law_right.nd)) (fun _ _ _ _ _ => t_yes) (fun _ _ _ _ _ => (EX.o2s (x_list rfl m_list (x_cons (x_var 7) x_nil)))))
  (s_cons (own := [.s, .p, .p, .o, .s, .s, .s, .s, .o, .o, .s, .o, .s, .s, .s, .s, .s, .s, .s, .s, .s, .s]) (o1 := [.s, .p, .p, .o, .s, .s, .s, .s, .o, .o, .s, .o, .s, .s, .s, .s, .s, .s, .s, .s, .s, .s]) (s_setS 12 sc__law_right.nd (x_call rfl c_even_triples (hr.mono (by decide)) (L2N.takes_of rfl rfl rfl rfl) (m_p (x_var 11) m_nil)))
  (s_cons (own := [.s, .p, .p, .o, .s, .s, .s, .s, .o, .o, .s, .o, .s, .s, .s, .s, .s, .s, .s, .s, .s, .s]) (o1 := [.s, .p, .p, .o, .s, .s, .s, .s, .o, .o, .s, .o, .s, .s, .s, .s, .s, .s, .s, .s, .s, .s]) (s_if (on := [.s, .p, .p, .o, .s, .s, .s, .s, .o, .o, .s, .o, .s, .s, .s, .s, .s, .s, .s, .s, .s, .s]) (b_pw (w_or (b_not (b_tru rfl (EX.o2p (x_call rfl c__law_is_whole (hr.mono (by decide)) (L2N.takes_of rfl rfl rfl rfl) (m_p (x_var 12) m_nil))))) (w_or (b_ne rfl (hu64 hr) (x_var 12) (EX.s2p (x_call rfl c__law_signs (hr.mono (by decide)) (L2N.takes_of rfl rfl rfl rfl) (m_p (x_var 8) m_nil)))) (w_or1 (b_ne rfl (hu64 hr) (x_var 11) (x_var 8))))))
 (s_cons (own := [.s, .p, .p, .o, .s, .s, .s, .s, .o, .o, .s, .o, .s, .s, .s, .s, .s, .s, .s, .s, .s, .s]) (s_ret x_bl)
  (s_nil (own := [.s, .p, .p, .o, .s, .s, .s, .s, .o, .o, .s, .o, .s, .s, .s, .s, .s, .s, .s, .s, .s, .s])))
 (s_nil))
  (s_cons (own := [.s, .p, .p, .o, .s, .s, .s, .s, .o, .o, .s, .o, .s, .s, .s, .s, .s, .s, .s, .s, .s, .s]) (o1 := [.s, .p, .p, .o, .s, .s, .s, .s, .o, .o, .s, .o, .s, .s, .s, .s, .s, .s, .s, .s, .s, .s]) (s_if (on := [.s, .p, .p, .o, .s, .s, .s, .s, .o, .o, .s, .o, .s, .s, .s, .s, .s, .s, .s, .s, .s, .s]) (b_gtA rfl (hu64 hr) (EX.o2p (x_len rfl m_len (x_cons (x_var 8) x_nil))) (EX.o2p x_int))
 (s_cons (own := [.s, .p, .p, .o, .s, .s, .s, .s, .o, .o, .s, .o, .s, .s, .s, .s, .s, .s, .s, .s, .s, .s]) (o1 := [.s, .p, .p, .o, .s, .s, .s, .s, .o, .o, .s, .o, .s, .s, .s, .s, .s, .s, .s, .s, .s, .s]) (s_for (own := [.s, .p, .p, .o, .s, .s, .s, .s, .o, .o, .s, .o, .s, .s, .s, .s, .s, .s, .s, .s, .s, .s]) (o1 := [.s, .p, .p, .o, .s, .s, .s, .s, .o, .o, .s, .o, .s, .s, .s, .s, .s, .s, .s, .s, .s, .s]) (passes_of rfl) rfl (i_range1 m_range (x_cons (EX.o2p x_int) x_nil)) (g_name 10 sc__law_right.nd)
 (s_end (on := [.s, .p, .p, .o, .s, .s, .s, .s, .o, .o, .s, .o, .s, .o, .s, .s, .s, .s, .s, .s, .s, .s]) [13] (by decide) (s_cons (own := [.s, .p, .p, .o, .s, .s, .s, .s, .o, .o, .s, .o, .s, .s, .s, .s, .s, .s, .s, .s, .s, .s]) (o1 := [.s, .p, .p, .o, .s, .s, .s, .s, .o, .o, .s, .o, .s, .o, .s, .s, .s, .s, .s, .s, .s, .s]) (s_setLc 13 [("k", 15)] rfl sc__law_right.nd (by kernel_rfl) (i_range1 m_range (x_cons (EX.o2p (x_len rfl m_len (x_cons (x_var 8) x_nil))) x_nil)) (fun _ _ _ _ _ => (g_name 15 sc__law_right.nd)) (fun _ _ _ _ _ => t_yes) (fun _ _ _ _ _ => (x_varS 15)))
  (s_cons (own := [.s, .p, .p, .o, .s, .s, .s, .s, .o, .o, .s, .o, .s, .o, .s, .s, .s, .s, .s, .s, .s, .s]) (o1 := [.s, .p, .p, .o, .s, .s, .s, .s, .o, .o, .s, .o, .s, .o, .s, .s, .s, .s, .s, .s, .s, .s]) (s_popS 13 14 sc__law_right.nd (EX.s2p (x_call rfl c__law_draw (hr.mono (by decide)) (L2N.takes_of rfl rfl rfl rfl) (m_s (x_varS 0) (m_s (EX.o2s (x_len rfl m_len (x_cons (x_var 13) x_nil))) m_nil)))))
  (s_cons (own := [.s, .p, .p, .o, .s, .s, .s, .s, .o, .o, .s, .o, .s, .o, .s, .s, .s, .s, .s, .s, .s, .s]) (o1 := [.s, .p, .p, .o, .s, .s, .s, .s, .o, .o, .s, .o, .s, .o, .s, .s, .s, .s, .s, .s, .s, .s]) (s_popS 13 6 sc__law_right.nd (EX.s2p (x_call rfl c__law_draw (hr.mono (by decide)) (L2N.takes_of rfl rfl rfl rfl) (m_s (x_varS 0) (m_s (EX.o2s (x_len rfl m_len (x_cons (x_var 13) x_nil))) m_nil)))))
  (s_cons (own := [.s, .p, .p, .o, .s, .s, .s, .s, .o, .o, .s, .o, .s, .o, .s, .s, .s, .s, .s, .s, .s, .s]) (o1 := [.s, .p, .p, .o, .s, .s, .s, .s, .o, .o, .s, .o, .s, .o, .s, .s, .s, .s, .s, .s, .s, .s]) (s_popS 13 15 sc__law_right.nd (EX.s2p (x_call rfl c__law_draw (hr.mono (by decide)) (L2N.takes_of rfl rfl rfl rfl) (m_s (x_varS 0) (m_s (EX.o2s (x_len rfl m_len (x_cons (x_var 13) x_nil))) m_nil)))))
  (s_cons (own := [.s, .p, .p, .o, .s, .s, .s, .s, .o, .o, .s, .o, .s, .o, .s, .s, .s, .s, .s, .s, .s, .s]) (o1 := [.s, .p, .p, .o, .s, .s, .s, .s, .o, .o, .s, .o, .s, .o, .s, .s, .s, .s, .s, .s, .s, .s]) (s_setS 16 sc__law_right.nd (EX.o2s (x_call rfl c_triple_sign (hr.mono (by decide)) (L2N.takes_of rfl rfl rfl rfl) (m_p (x_var 11) (m_p (x_var 14) (m_p (x_var 6) (m_p (x_var 15) m_nil)))))))
  (s_cons (own := [.s, .p, .p, .o, .s, .s, .s, .s, .o, .o, .s, .o, .s, .o, .s, .s, .s, .s, .s, .s, .s, .s]) (o1 := [.s, .p, .p, .o, .s, .s, .s, .s, .o, .o, .s, .o, .s, .o, .s, .s, .s, .s, .s, .s, .s, .s]) (s_setS 17 sc__law_right.nd (EX.o2s (x_mul (EX.o2p (x_mul (EX.o2p (x_call rfl c__law_dot (hr.mono (by decide)) (L2N.takes_of rfl rfl rfl rfl) (m_p (EX.s2p (x_ix rfl (x_var 8) (x_var 14))) (m_p (EX.s2p (x_ix rfl (x_var 8) (x_var 6))) m_nil)))) (EX.o2p (x_call rfl c__law_dot (hr.mono (by decide)) (L2N.takes_of rfl rfl rfl rfl) (m_p (EX.s2p (x_ix rfl (x_var 8) (x_var 14))) (m_p (EX.s2p (x_ix rfl (x_var 8) (x_var 15))) m_nil)))))) (EX.o2p (x_call rfl c__law_dot (hr.mono (by decide)) (L2N.takes_of rfl rfl rfl rfl) (m_p (EX.s2p (x_ix rfl (x_var 8) (x_var 6))) (m_p (EX.s2p (x_ix rfl (x_var 8) (x_var 15))) m_nil)))))))
  (s_cons (own := [.s, .p, .p, .o, .s, .s, .s, .s, .o, .o, .s, .o, .s, .o, .s, .s, .s, .s, .s, .s, .s, .s]) (o1 := [.s, .p, .p, .o, .s, .s, .s, .s, .o, .o, .s, .o, .s, .o, .s, .s, .s, .s, .s, .s, .s, .s]) (s_if (on := [.s, .p, .p, .o, .s, .s, .s, .s, .o, .o, .s, .o, .s, .o, .s, .s, .s, .s, .s, .s, .s, .s]) (b_pw (w_or (b_not (b_tru rfl (EX.o2p (x_call rfl c__law_is_whole (hr.mono (by decide)) (L2N.takes_of rfl rfl rfl rfl) (m_p (x_var 16) m_nil))))) (w_or (b_ne rfl (hu64 hr) (x_var 16) (EX.s2p (x_ix rfl (EX.o2p (x_lst (x_cons (EX.o2s (x_neg (EX.o2p x_int))) (x_cons (EX.o2s x_int) x_nil)))) (EX.o2p (x_int1 m_int (x_cons (EX.o2p (x_gtA rfl (hu64 hr) (x_var 17) (EX.o2p x_int))) x_nil)))))) (w_or1 (b_ne rfl (hu64 hr) (x_var 11) (x_var 8))))))
 (s_cons (own := [.s, .p, .p, .o, .s, .s, .s, .s, .o, .o, .s, .o, .s, .o, .s, .s, .s, .s, .s, .s, .s, .s]) (s_ret x_bl)
  (s_nil (own := [.s, .p, .p, .o, .s, .s, .s, .s, .o, .o, .s, .o, .s, .o, .s, .s, .s, .s, .s, .s, .s, .s])))
 (s_nil))
  (s_nil))))))))))
  (s_nil))
 (s_nil))
  (s_cons (own := [.s, .p, .p, .o, .s, .s, .s, .s, .o, .o, .s, .o, .s, .s, .s, .s, .s, .s, .s, .s, .s, .s]) (o1 := [.s, .p, .p, .o, .s, .s, .s, .s, .o, .o, .s, .o, .s, .s, .s, .s, .s, .s, .s, .s, .s, .s]) (s_for (own := [.s, .p, .p, .o, .s, .s, .s, .s, .o, .o, .s, .o, .s, .s, .s, .s, .s, .s, .s, .s, .s, .s]) (o1 := [.s, .p, .p, .o, .s, .s, .s, .s, .o, .o, .s, .o, .s, .s, .s, .s, .s, .s, .s, .s, .s, .s]) (passes_of rfl) rfl (i_range1 m_range (x_cons (EX.o2p x_int) x_nil)) (g_name 10 sc__law_right.nd)
 (s_end (on := [.s, .p, .p, .o, .s, .s, .s, .s, .o, .o, .s, .o, .s, .s, .s, .s, .s, .s, .o, .s, .s, .s]) [18] (by decide) (s_cons (own := [.s, .p, .p, .o, .s, .s, .s, .s, .o, .o, .s, .o, .s, .s, .s, .s, .s, .s, .s, .s, .s, .s]) (o1 := [.s, .p, .p, .o, .s, .s, .s, .s, .o, .o, .s, .o, .s, .s, .s, .s, .s, .s, .o, .s, .s, .s]) (s_setLc 18 [("k", 15)] rfl sc__law_right.nd (by kernel_rfl) (i_range1 m_range (x_cons (EX.o2p (x_add rfl (EX.o2p x_int) (EX.s2p (x_call rfl c__law_draw (hr.mono (by decide)) (L2N.takes_of rfl rfl rfl rfl) (m_s (x_varS 0) (m_s (EX.o2s x_int) m_nil)))))) x_nil)) (fun _ _ _ _ _ => (g_name 15 sc__law_right.nd)) (fun _ _ _ _ _ => t_yes) (fun _ _ _ _ _ => (x_ix rfl (x_var 4) (EX.s2p (x_call rfl c__law_draw (hr.mono (by decide)) takes0N (m_s (x_varS 0) (m_s (EX.o2s x_int) m_nil)))))))
  (s_cons (own := [.s, .p, .p, .o, .s, .s, .s, .s, .o, .o, .s, .o, .s, .s, .s, .s, .s, .s, .o, .s, .s, .s]) (o1 := [.s, .p, .p, .o, .s, .s, .s, .s, .o, .o, .s, .o, .s, .s, .s, .s, .s, .s, .o, .s, .s, .s]) (s_asg (EX.o2s (x_call rfl c__law_spanned (hr.mono (by decide)) (L2N.takes_of rfl rfl rfl rfl) (m_p (x_var 18) (m_p (x_var 4) m_nil)))) (g_tup rfl rfl (gs_cons (g_name 19 sc__law_right.nd) (gs_cons (g_name 12 sc__law_right.nd) gs_nil))))
  (s_cons (own := [.s, .p, .p, .o, .s, .s, .s, .s, .o, .o, .s, .o, .s, .s, .s, .s, .s, .s, .o, .s, .s, .s]) (o1 := [.s, .p, .p, .o, .s, .s, .s, .s, .o, .o, .s, .o, .s, .s, .s, .s, .s, .s, .o, .s, .s, .s]) (s_if (on := [.s, .p, .p, .o, .s, .s, .s, .s, .o, .o, .s, .o, .s, .s, .s, .s, .s, .s, .o, .s, .s, .s]) (b_gtA rfl (hu64 hr) (x_var 12) (EX.s2p (x_call rfl c_most_at_angle (hr.mono (by decide)) (L2N.takes_of rfl rfl rfl rfl) (m_p (x_var 19) m_nil))))
 (s_cons (own := [.s, .p, .p, .o, .s, .s, .s, .s, .o, .o, .s, .o, .s, .s, .s, .s, .s, .s, .o, .s, .s, .s]) (s_ret x_bl)
  (s_nil (own := [.s, .p, .p, .o, .s, .s, .s, .s, .o, .o, .s, .o, .s, .s, .s, .s, .s, .s, .o, .s, .s, .s])))
 (s_nil))
  (s_nil))))))
  (s_cons (own := [.s, .p, .p, .o, .s, .s, .s, .s, .o, .o, .s, .o, .s, .s, .s, .s, .s, .s, .s, .s, .s, .s]) (o1 := [.s, .p, .p, .o, .s, .s, .s, .s, .o, .o, .s, .o, .s, .s, .s, .s, .s, .s, .s, .s, .s, .s]) (s_setS 20 sc__law_right.nd (EX.o2s (x_call rfl c__law_chosen (hr.mono (by decide)) (L2N.takes_of rfl rfl rfl rfl) (m_s (x_varS 0) (m_p (x_var 1) (m_p (x_var 2) (m_p (x_var 4) m_nil)))))))
  (s_cons (own := [.s, .p, .p, .o, .s, .s, .s, .s, .o, .o, .s, .o, .s, .s, .s, .s, .s, .s, .s, .s, .s, .s]) (s_ret (x_eq rfl (hu64 hr) (x_var 20) (EX.o2p (x_lst (x_cons (EX.o2s x_int) (x_cons (EX.o2s x_int) (x_cons (EX.o2s x_int) (x_cons (EX.o2s x_int) (x_cons (EX.o2s x_int) (x_cons (EX.o2s x_int) (x_cons (EX.o2s x_int) x_nil)))))))))))
  (s_nil (own := [.s, .p, .p, .o, .s, .s, .s, .s, .o, .o, .s, .o, .s, .s, .s, .s, .s, .s, .s, .s, .s, .s]))))))))))))))))))
theorem ok_law {f ff : Addr} {fd fdf : FuncData} (F : Fun K "law" "law" s_law f fd) (FF : Fun K "_law_feed" "_law_feed" s__law_feed ff fdf) (gF : mg "_law_feed" = some (.ref ff)) (bF : Binds K fdf ["script"] []) (m_list : mg "list" = none) (c__law_all_roots : Cal P w K mg base cls "_law_all_roots" 1 [] .o F__law_all_roots) (c__law_draw : Cal P w K mg base cls "_law_draw" 1 [false, false] .s F__law_draw) (c__law_right : Cal P w K mg base cls "_law_right" 7 [false, true, true] .o F__law_right) (c_most_at_angle : Cal P w K mg base cls "most_at_angle" 1 [true] .s F_most_at_angle) (c__law_is_whole : Cal P w K mg base cls "_law_is_whole" 1 [true] .o F__law_is_whole) (c__law_lines : Cal P w K mg base cls "_law_lines" 2 [true, true] .o F__law_lines) (c_even_triples : Cal P w K mg base cls "even_triples" 3 [true] .s F_even_triples) (c__law_signs : Cal P w K mg base cls "_law_signs" 2 [true] .s F__law_signs) (c__law_spanned : Cal P w K mg base cls "_law_spanned" 2 [true, true] .o F__law_spanned) (c_lines_of : Cal P w K mg base cls "lines_of" 6 [true] .o F_lines_of) (m_range : mg "range" = none) (m_len : mg "len" = none)
    (hB : ∀ φ : Fd, φ.Ok → ∃ φ', B_law ((List.replicate 9 none).set 1 (some .feed)) φ = .rt (.bl true) φ') :
    FnOk P w K mg base (L2N.CX P w) 8 f fd ["script"] (spLaw K) :=
  law_sem (cls := cls) (j := 1) F sc_law .s B_law rfl (by decide) (by decide) (fun cdv A outer s H E hr => ps_set (i := 1) sc_law.nd rfl (Or.inl rfl) (pe_call (ok__law_feed FF m_list) (hr.mono (by decide)) (by rfl) gF FF.kp bF .nil passN (pa_cons (pv 0) pa_nil)))
   (fun cdv A outer s H E cf cZ cH s0 r0 hr => (
s_cons (own := [.s, .s, .s, .s, .s, .s, .s, .s, .s]) (o1 := [.s, .s, .s, .s, .s, .s, .s, .s, .s]) (s_setS 2 sc_law.nd (EX.o2s (x_call0 rfl c__law_all_roots (hr.mono (by decide)))))
  (s_cons (own := [.s, .s, .s, .s, .s, .s, .s, .s, .s]) (o1 := [.s, .s, .s, .s, .s, .s, .s, .s, .s]) (s_setS 3 sc_law.nd (x_ix rfl (x_var 2) (EX.s2p (x_call rfl c__law_draw (hr.mono (by decide)) (L2N.takes_of rfl rfl rfl rfl) (m_s (x_varS 1) (m_s (EX.o2s x_int) m_nil))))))
  (s_cons (own := [.s, .s, .s, .s, .s, .s, .s, .s, .s]) (o1 := [.s, .s, .s, .s, .s, .s, .s, .s, .s]) (s_if (on := [.s, .s, .s, .s, .s, .s, .s, .s, .s]) (b_not (b_tru rfl (EX.o2p (x_call rfl c__law_right (hr.mono (by decide)) (L2N.takes_of rfl rfl rfl rfl) (m_s (x_varS 1) (m_p (x_var 2) (m_p (x_var 3) m_nil)))))))
 (s_cons (own := [.s, .s, .s, .s, .s, .s, .s, .s, .s]) (s_ret (EX.o2s x_bl))
  (s_nil (own := [.s, .s, .s, .s, .s, .s, .s, .s, .s])))
 (s_nil))
  (s_cons (own := [.s, .s, .s, .s, .s, .s, .s, .s, .s]) (o1 := [.s, .s, .s, .s, .o, .s, .s, .s, .s]) (s_setLc 4 [("n", 6)] rfl sc_law.nd (by kernel_rfl) (i_range2 m_range (x_cons (EX.o2p x_int) (x_cons (EX.o2p x_int) x_nil))) (fun _ _ _ _ _ => (g_name 6 sc_law.nd)) (fun _ _ _ _ _ => t_yes) (fun _ _ _ _ _ => (x_call rfl c_most_at_angle (hr.mono (by decide)) takes0N (m_p (x_var 6) m_nil))))
  (s_cons (own := [.s, .s, .s, .s, .o, .s, .s, .s, .s]) (o1 := [.s, .s, .s, .s, .o, .s, .s, .s, .s]) (s_if (on := [.s, .s, .s, .s, .o, .s, .s, .s, .s]) (b_pw (w_or (b_ne rfl (hu64 hr) (x_var 4) (EX.o2p (x_lst (x_cons (EX.o2s x_int) (x_cons (EX.o2s x_int) (x_cons (EX.o2s x_int) (x_cons (EX.o2s x_int) (x_cons (EX.o2s x_int) (x_cons (EX.o2s x_int) (x_cons (EX.o2s x_int) x_nil)))))))))) (w_or1 (b_gtA rfl (hu64 hr) (EX.o2p (x_len rfl m_len (x_cons (EX.o2p (x_lc [("x", 7)] rfl sc_law.nd (by kernel_rfl) (i_seq rfl (x_var 4)) (fun _ _ _ _ _ => (g_name 7 sc_law.nd)) (fun _ _ _ _ _ => (t_one (b_not (b_tru rfl (EX.o2p (x_call rfl c__law_is_whole (hr.mono (by decide)) takes0N (m_p (x_var 7) m_nil))))))) (fun _ _ _ _ _ => (x_varS 7)))) x_nil))) (EX.o2p x_int)))))
 (s_cons (own := [.s, .s, .s, .s, .o, .s, .s, .s, .s]) (s_ret (EX.o2s x_bl))
  (s_nil (own := [.s, .s, .s, .s, .o, .s, .s, .s, .s])))
 (s_nil))
  (s_cons (own := [.s, .s, .s, .s, .o, .s, .s, .s, .s]) (o1 := [.s, .s, .s, .s, .o, .s, .s, .s, .s]) (s_setS 5 sc_law.nd (EX.o2s (x_call rfl c__law_lines (hr.mono (by decide)) (L2N.takes_of rfl rfl rfl rfl) (m_p (x_var 2) (m_p (x_var 3) m_nil)))))
  (s_cons (own := [.s, .s, .s, .s, .o, .s, .s, .s, .s]) (o1 := [.s, .s, .s, .s, .o, .s, .s, .s, .s]) (s_if (on := [.s, .s, .s, .s, .o, .s, .s, .s, .s]) (b_pw (w_and (b_eq rfl (hu64 hr) (EX.s2p (x_call rfl c__law_draw (hr.mono (by decide)) (L2N.takes_of rfl rfl rfl rfl) (m_s (x_varS 1) (m_s (EX.o2s x_int) m_nil)))) (EX.o2p x_int)) (w_and1 (b_ne rfl (hu64 hr) (EX.s2p (x_call rfl c_even_triples (hr.mono (by decide)) (L2N.takes_of rfl rfl rfl rfl) (m_p (EX.o2p (x_lc [("row", 8)] rfl sc_law.nd (by kernel_rfl) (i_seq rfl (x_var 5)) (fun _ _ _ _ _ => (g_name 8 sc_law.nd)) (fun _ _ _ _ _ => t_yes) (fun _ _ _ _ _ => (EX.o2s (x_list rfl m_list (x_cons (x_var 8) x_nil)))))) m_nil))) (EX.s2p (x_call rfl c__law_signs (hr.mono (by decide)) (L2N.takes_of rfl rfl rfl rfl) (m_p (x_var 5) m_nil)))))))
 (s_cons (own := [.s, .s, .s, .s, .o, .s, .s, .s, .s]) (s_ret (EX.o2s x_bl))
  (s_nil (own := [.s, .s, .s, .s, .o, .s, .s, .s, .s])))
 (s_nil))
  (s_cons (own := [.s, .s, .s, .s, .o, .s, .s, .s, .s]) (o1 := [.s, .s, .s, .s, .o, .s, .s, .s, .s]) (s_if (on := [.s, .s, .s, .s, .o, .s, .s, .s, .s]) (b_pw (w_or (b_ne rfl (hu64 hr) (EX.o2p (x_call rfl c__law_spanned (hr.mono (by decide)) (L2N.takes_of rfl rfl rfl rfl) (m_p (EX.o2p (x_sl rfl (x_var 5) o_none (o_some (EX.o2p x_int)))) (m_p (x_var 5) m_nil)))) (x_tup (x_cons (EX.o2s x_int) (x_cons (EX.o2s x_int) x_nil)))) (w_or1 (b_ne rfl (hu64 hr) (EX.o2p (x_call rfl c__law_spanned (hr.mono (by decide)) (L2N.takes_of rfl rfl rfl rfl) (m_p (EX.o2p (x_sl rfl (x_var 5) o_none (o_some (EX.o2p x_int)))) (m_p (x_var 5) m_nil)))) (x_tup (x_cons (EX.o2s x_int) (x_cons (EX.o2s x_int) x_nil)))))))
 (s_cons (own := [.s, .s, .s, .s, .o, .s, .s, .s, .s]) (s_ret (EX.o2s x_bl))
  (s_nil (own := [.s, .s, .s, .s, .o, .s, .s, .s, .s])))
 (s_nil))
  (s_cons (own := [.s, .s, .s, .s, .o, .s, .s, .s, .s]) (s_ret (x_and (EX.o2p (x_eq rfl (hu64 hr) (EX.s2p (x_call rfl c_even_triples (hr.mono (by decide)) (L2N.takes_of rfl rfl rfl rfl) (m_p (EX.o2p (x_sl rfl (x_var 5) o_none (o_some (EX.o2p x_int)))) m_nil))) (EX.o2p x_int))) (x_one (EX.o2s (x_eq rfl (hu64 hr) (EX.o2p (x_len rfl m_len (x_cons (EX.o2p (x_call rfl c_lines_of (hr.mono (by decide)) (L2N.takes_of rfl rfl rfl rfl) (m_p (EX.o2p (x_lst (x_cons (EX.o2s x_int) (x_cons (EX.o2s x_int) (x_cons (EX.o2s x_int) (x_cons (EX.o2s x_int) (x_cons (EX.o2s x_int) (x_cons (EX.o2s x_int) (x_cons (EX.o2s x_int) (x_cons (EX.o2s x_int) x_nil)))))))))) m_nil))) x_nil))) (EX.o2p x_int))))))
  (s_nil (own := [.s, .s, .s, .s, .o, .s, .s, .s, .s])))))))))))) hB
end
theorem all_mk {l : PySem.W.OpenLaw} {w : World} {K : PySem.W.Frag} {h : Heap} {mg : Str → Option Value} {fa : Addr} (X : K.In h) (G : h.Ns mainGlobals mg) (hfa : mg "law" = some (.ref fa))
    {f0 f1 f2 f3 f4 f5 f6 f7 f8 f9 f10 f11 f12 f13 f14 f15 f16 f17 f18 f19 f20 f21 f22 f23 f24 : Addr} {od0 an0 od1 an1 od2 an2 od3 an3 od4 an4 od5 an5 od6 an6 od7 an7 od8 an8 od9 an9 od10 an10 od11 an11 od12 an12 od13 an13 od14 an14 od15 an15 od16 an16 od17 an17 od18 an18 od19 an19 od20 an20 od21 an21 od22 an22 od23 an23 od24 an24 : Option Addr} {sl0 sl1 sl2 sl3 sl4 sl5 sl6 sl7 sl8 sl9 sl10 sl11 sl12 sl13 sl14 sl15 sl16 sl17 sl18 sl19 sl20 sl21 sl22 sl23 sl24 : Array (Option Value)} {oc0 kV0 dc0 pm0 cd0 ct0 oc1 kV1 dc1 pm1 cd1 ct1 oc2 kV2 dc2 pm2 cd2 ct2 oc3 kV3 dc3 pm3 cd3 ct3 oc4 kV4 dc4 pm4 cd4 ct4 oc5 kV5 dc5 pm5 cd5 ct5 oc6 kV6 dc6 pm6 cd6 ct6 oc7 kV7 dc7 pm7 cd7 ct7 oc8 kV8 dc8 pm8 cd8 ct8 oc9 kV9 dc9 pm9 cd9 ct9 oc10 kV10 dc10 pm10 cd10 ct10 oc11 kV11 dc11 pm11 cd11 ct11 oc12 kV12 dc12 pm12 cd12 ct12 oc13 kV13 dc13 pm13 cd13 ct13 oc14 kV14 dc14 pm14 cd14 ct14 oc15 kV15 dc15 pm15 cd15 ct15 oc16 kV16 dc16 pm16 cd16 ct16 oc17 kV17 dc17 pm17 cd17 ct17 oc18 kV18 dc18 pm18 cd18 ct18 oc19 kV19 dc19 pm19 cd19 ct19 oc20 kV20 dc20 pm20 cd20 ct20 oc21 kV21 dc21 pm21 cd21 ct21 oc22 kV22 dc22 pm22 cd22 ct22 oc23 kV23 dc23 pm23 cd23 ct23 oc24 kV24 dc24 pm24 cd24 ct24 : Value}
    (a0 : PySem.W.nsIn K mainGlobals "row_product" = some (some (.ref f0))) (l0 : K.lookup f0 = some ⟨oc0, od0, .func (PySem.W.fnOf "row_product" "row_product" (defArgs s_row_product) (defBody s_row_product) (defScope s_row_product) .none kV0 dc0 pm0 an0 cd0 ct0), sl0⟩) (c0 : PySem.W.codeIn K cd0 "row_product" = true) (k0 : PySem.W.keepIn K (.ref f0) = true)
    (a1 : PySem.W.nsIn K mainGlobals "row_less" = some (some (.ref f1))) (l1 : K.lookup f1 = some ⟨oc1, od1, .func (PySem.W.fnOf "row_less" "row_less" (defArgs s_row_less) (defBody s_row_less) (defScope s_row_less) .none kV1 dc1 pm1 an1 cd1 ct1), sl1⟩) (c1 : PySem.W.codeIn K cd1 "row_less" = true) (k1 : PySem.W.keepIn K (.ref f1) = true)
    (a2 : PySem.W.nsIn K mainGlobals "even_roots" = some (some (.ref f2))) (l2 : K.lookup f2 = some ⟨oc2, od2, .func (PySem.W.fnOf "even_roots" "even_roots" (defArgs s_even_roots) (defBody s_even_roots) (defScope s_even_roots) .none kV2 dc2 pm2 an2 cd2 ct2), sl2⟩) (c2 : PySem.W.codeIn K cd2 "even_roots" = true) (k2 : PySem.W.keepIn K (.ref f2) = true)
    (a3 : PySem.W.nsIn K mainGlobals "odd_roots" = some (some (.ref f3))) (l3 : K.lookup f3 = some ⟨oc3, od3, .func (PySem.W.fnOf "odd_roots" "odd_roots" (defArgs s_odd_roots) (defBody s_odd_roots) (defScope s_odd_roots) .none kV3 dc3 pm3 an3 cd3 ct3), sl3⟩) (c3 : PySem.W.codeIn K cd3 "odd_roots" = true) (k3 : PySem.W.keepIn K (.ref f3) = true)
    (a4 : PySem.W.nsIn K mainGlobals "all_roots" = some (some (.ref f4))) (l4 : K.lookup f4 = some ⟨oc4, od4, .func (PySem.W.fnOf "all_roots" "all_roots" (defArgs s_all_roots) (defBody s_all_roots) (defScope s_all_roots) .none kV4 dc4 pm4 an4 cd4 ct4), sl4⟩) (c4 : PySem.W.codeIn K cd4 "all_roots" = true) (k4 : PySem.W.keepIn K (.ref f4) = true)
    (a5 : PySem.W.nsIn K mainGlobals "roots_with" = some (some (.ref f5))) (l5 : K.lookup f5 = some ⟨oc5, od5, .func (PySem.W.fnOf "roots_with" "roots_with" (defArgs s_roots_with) (defBody s_roots_with) (defScope s_roots_with) .none kV5 dc5 pm5 an5 cd5 ct5), sl5⟩) (c5 : PySem.W.codeIn K cd5 "roots_with" = true) (k5 : PySem.W.keepIn K (.ref f5) = true)
    (a6 : PySem.W.nsIn K mainGlobals "fifty_six" = some (some (.ref f6))) (l6 : K.lookup f6 = some ⟨oc6, od6, .func (PySem.W.fnOf "fifty_six" "fifty_six" (defArgs s_fifty_six) (defBody s_fifty_six) (defScope s_fifty_six) .none kV6 dc6 pm6 an6 cd6 ct6), sl6⟩) (c6 : PySem.W.codeIn K cd6 "fifty_six" = true) (k6 : PySem.W.keepIn K (.ref f6) = true)
    (a7 : PySem.W.nsIn K mainGlobals "twenty_eight" = some (some (.ref f7))) (l7 : K.lookup f7 = some ⟨oc7, od7, .func (PySem.W.fnOf "twenty_eight" "twenty_eight" (defArgs s_twenty_eight) (defBody s_twenty_eight) (defScope s_twenty_eight) .none kV7 dc7 pm7 an7 cd7 ct7), sl7⟩) (c7 : PySem.W.codeIn K cd7 "twenty_eight" = true) (k7 : PySem.W.keepIn K (.ref f7) = true)
    (a8 : PySem.W.nsIn K mainGlobals "lines_of" = some (some (.ref f8))) (l8 : K.lookup f8 = some ⟨oc8, od8, .func (PySem.W.fnOf "lines_of" "lines_of" (defArgs s_lines_of) (defBody s_lines_of) (defScope s_lines_of) .none kV8 dc8 pm8 an8 cd8 ct8), sl8⟩) (c8 : PySem.W.codeIn K cd8 "lines_of" = true) (k8 : PySem.W.keepIn K (.ref f8) = true)
    (a9 : PySem.W.nsIn K mainGlobals "triple_sign" = some (some (.ref f9))) (l9 : K.lookup f9 = some ⟨oc9, od9, .func (PySem.W.fnOf "triple_sign" "triple_sign" (defArgs s_triple_sign) (defBody s_triple_sign) (defScope s_triple_sign) .none kV9 dc9 pm9 an9 cd9 ct9), sl9⟩) (c9 : PySem.W.codeIn K cd9 "triple_sign" = true) (k9 : PySem.W.keepIn K (.ref f9) = true)
    (a10 : PySem.W.nsIn K mainGlobals "even_triples" = some (some (.ref f10))) (l10 : K.lookup f10 = some ⟨oc10, od10, .func (PySem.W.fnOf "even_triples" "even_triples" (defArgs s_even_triples) (defBody s_even_triples) (defScope s_even_triples) .none kV10 dc10 pm10 an10 cd10 ct10), sl10⟩) (c10 : PySem.W.codeIn K cd10 "even_triples" = true) (k10 : PySem.W.keepIn K (.ref f10) = true)
    (a11 : PySem.W.nsIn K mainGlobals "most_at_angle" = some (some (.ref f11))) (l11 : K.lookup f11 = some ⟨oc11, od11, .func (PySem.W.fnOf "most_at_angle" "most_at_angle" (defArgs s_most_at_angle) (defBody s_most_at_angle) (defScope s_most_at_angle) .none kV11 dc11 pm11 an11 cd11 ct11), sl11⟩) (c11 : PySem.W.codeIn K cd11 "most_at_angle" = true) (k11 : PySem.W.keepIn K (.ref f11) = true)
    (a12 : PySem.W.nsIn K mainGlobals "_law_feed" = some (some (.ref f12))) (l12 : K.lookup f12 = some ⟨oc12, od12, .func (PySem.W.fnOf "_law_feed" "_law_feed" (defArgs s__law_feed) (defBody s__law_feed) (defScope s__law_feed) .none kV12 dc12 pm12 an12 cd12 ct12), sl12⟩) (c12 : PySem.W.codeIn K cd12 "_law_feed" = true) (k12 : PySem.W.keepIn K (.ref f12) = true)
    (a13 : PySem.W.nsIn K mainGlobals "_law_draw" = some (some (.ref f13))) (l13 : K.lookup f13 = some ⟨oc13, od13, .func (PySem.W.fnOf "_law_draw" "_law_draw" (defArgs s__law_draw) (defBody s__law_draw) (defScope s__law_draw) .none kV13 dc13 pm13 an13 cd13 ct13), sl13⟩) (c13 : PySem.W.codeIn K cd13 "_law_draw" = true) (k13 : PySem.W.keepIn K (.ref f13) = true)
    (a14 : PySem.W.nsIn K mainGlobals "_law_is_whole" = some (some (.ref f14))) (l14 : K.lookup f14 = some ⟨oc14, od14, .func (PySem.W.fnOf "_law_is_whole" "_law_is_whole" (defArgs s__law_is_whole) (defBody s__law_is_whole) (defScope s__law_is_whole) .none kV14 dc14 pm14 an14 cd14 ct14), sl14⟩) (c14 : PySem.W.codeIn K cd14 "_law_is_whole" = true) (k14 : PySem.W.keepIn K (.ref f14) = true)
    (a15 : PySem.W.nsIn K mainGlobals "_law_all_roots" = some (some (.ref f15))) (l15 : K.lookup f15 = some ⟨oc15, od15, .func (PySem.W.fnOf "_law_all_roots" "_law_all_roots" (defArgs s__law_all_roots) (defBody s__law_all_roots) (defScope s__law_all_roots) .none kV15 dc15 pm15 an15 cd15 ct15), sl15⟩) (c15 : PySem.W.codeIn K cd15 "_law_all_roots" = true) (k15 : PySem.W.keepIn K (.ref f15) = true)
    (a16 : PySem.W.nsIn K mainGlobals "_law_dot" = some (some (.ref f16))) (l16 : K.lookup f16 = some ⟨oc16, od16, .func (PySem.W.fnOf "_law_dot" "_law_dot" (defArgs s__law_dot) (defBody s__law_dot) (defScope s__law_dot) .none kV16 dc16 pm16 an16 cd16 ct16), sl16⟩) (c16 : PySem.W.codeIn K cd16 "_law_dot" = true) (k16 : PySem.W.keepIn K (.ref f16) = true)
    (a17 : PySem.W.nsIn K mainGlobals "_law_lines" = some (some (.ref f17))) (l17 : K.lookup f17 = some ⟨oc17, od17, .func (PySem.W.fnOf "_law_lines" "_law_lines" (defArgs s__law_lines) (defBody s__law_lines) (defScope s__law_lines) .none kV17 dc17 pm17 an17 cd17 ct17), sl17⟩) (c17 : PySem.W.codeIn K cd17 "_law_lines" = true) (k17 : PySem.W.keepIn K (.ref f17) = true)
    (a18 : PySem.W.nsIn K mainGlobals "_law_rank" = some (some (.ref f18))) (l18 : K.lookup f18 = some ⟨oc18, od18, .func (PySem.W.fnOf "_law_rank" "_law_rank" (defArgs s__law_rank) (defBody s__law_rank) (defScope s__law_rank) .none kV18 dc18 pm18 an18 cd18 ct18), sl18⟩) (c18 : PySem.W.codeIn K cd18 "_law_rank" = true) (k18 : PySem.W.keepIn K (.ref f18) = true)
    (a19 : PySem.W.nsIn K mainGlobals "_law_clear" = some (some (.ref f19))) (l19 : K.lookup f19 = some ⟨oc19, od19, .func (PySem.W.fnOf "_law_clear" "_law_clear" (defArgs s__law_clear) (defBody s__law_clear) (defScope s__law_clear) .none kV19 dc19 pm19 an19 cd19 ct19), sl19⟩) (c19 : PySem.W.codeIn K cd19 "_law_clear" = true) (k19 : PySem.W.keepIn K (.ref f19) = true)
    (a20 : PySem.W.nsIn K mainGlobals "_law_spanned" = some (some (.ref f20))) (l20 : K.lookup f20 = some ⟨oc20, od20, .func (PySem.W.fnOf "_law_spanned" "_law_spanned" (defArgs s__law_spanned) (defBody s__law_spanned) (defScope s__law_spanned) .none kV20 dc20 pm20 an20 cd20 ct20), sl20⟩) (c20 : PySem.W.codeIn K cd20 "_law_spanned" = true) (k20 : PySem.W.keepIn K (.ref f20) = true)
    (a21 : PySem.W.nsIn K mainGlobals "_law_signs" = some (some (.ref f21))) (l21 : K.lookup f21 = some ⟨oc21, od21, .func (PySem.W.fnOf "_law_signs" "_law_signs" (defArgs s__law_signs) (defBody s__law_signs) (defScope s__law_signs) .none kV21 dc21 pm21 an21 cd21 ct21), sl21⟩) (c21 : PySem.W.codeIn K cd21 "_law_signs" = true) (k21 : PySem.W.keepIn K (.ref f21) = true)
    (a22 : PySem.W.nsIn K mainGlobals "_law_chosen" = some (some (.ref f22))) (l22 : K.lookup f22 = some ⟨oc22, od22, .func (PySem.W.fnOf "_law_chosen" "_law_chosen" (defArgs s__law_chosen) (defBody s__law_chosen) (defScope s__law_chosen) .none kV22 dc22 pm22 an22 cd22 ct22), sl22⟩) (c22 : PySem.W.codeIn K cd22 "_law_chosen" = true) (k22 : PySem.W.keepIn K (.ref f22) = true)
    (a23 : PySem.W.nsIn K mainGlobals "_law_right" = some (some (.ref f23))) (l23 : K.lookup f23 = some ⟨oc23, od23, .func (PySem.W.fnOf "_law_right" "_law_right" (defArgs s__law_right) (defBody s__law_right) (defScope s__law_right) .none kV23 dc23 pm23 an23 cd23 ct23), sl23⟩) (c23 : PySem.W.codeIn K cd23 "_law_right" = true) (k23 : PySem.W.keepIn K (.ref f23) = true)
    (a24 : PySem.W.nsIn K mainGlobals "law" = some (some (.ref f24))) (l24 : K.lookup f24 = some ⟨oc24, od24, .func (PySem.W.fnOf "law" "law" (defArgs s_law) (defBody s_law) (defScope s_law) .none kV24 dc24 pm24 an24 cd24 ct24), sl24⟩) (c24 : PySem.W.codeIn K cd24 "law" = true) (k24 : PySem.W.keepIn K (.ref f24) = true)
    (z_sum : PySem.W.nsIn K mainGlobals "sum" = some none)
    (z_zip : PySem.W.nsIn K mainGlobals "zip" = some none)
    (z_range : PySem.W.nsIn K mainGlobals "range" = some none)
    (z_sorted : PySem.W.nsIn K mainGlobals "sorted" = some none)
    (z_len : PySem.W.nsIn K mainGlobals "len" = some none)
    (z_list : PySem.W.nsIn K mainGlobals "list" = some none)
    (z_abs : PySem.W.nsIn K mainGlobals "abs" = some none)
    (z_int : PySem.W.nsIn K mainGlobals "int" = some none)
    (z_isinstance : PySem.W.nsIn K mainGlobals "isinstance" = some none)
    (z_bool : PySem.W.nsIn K mainGlobals "bool" = some none)
    {t_SIZE : Tok} (y_SIZE : PySem.W.nsIn K mainGlobals "SIZE" = some (some (.int 8 t_SIZE)))
    {t_MOST_BY_RANK : Value} (y_MOST_BY_RANK : PySem.W.nsIn K mainGlobals "MOST_BY_RANK" = some (some t_MOST_BY_RANK)) (r_MOST_BY_RANK : repB K t_MOST_BY_RANK (.tup [.int 1, .int 2, .int 4, .int 6, .int 10, .int 16, .int 28]) = true)
    (hB : ∀ φ : Fd, φ.Ok → ∃ φ', B_law ((List.replicate 9 none).set 1 (some .feed)) φ = .rt (.bl true) φ') :
    ∃ fd : FuncData, (∀ (s : Shared) (v : Value), BindsTo s fd ⟨[v], []⟩ [("script", v)]) ∧ ∀ base : Heap, K.In base → base.Ns mainGlobals mg → FnOk l.prog w K mg base (L2N.CX l.prog w) 8 fa fd ["script"] (spLaw K) := by
  have e := hfa.symm.trans (PySem.W.mg_of X G a24)
  cases e
  have m_sum := PySem.W.mg_none_of X G z_sum
  have m_zip := PySem.W.mg_none_of X G z_zip
  have m_range := PySem.W.mg_none_of X G z_range
  have m_sorted := PySem.W.mg_none_of X G z_sorted
  have m_len := PySem.W.mg_none_of X G z_len
  have m_list := PySem.W.mg_none_of X G z_list
  have m_abs := PySem.W.mg_none_of X G z_abs
  have m_int := PySem.W.mg_none_of X G z_int
  have m_isinstance := PySem.W.mg_none_of X G z_isinstance
  have m_bool := PySem.W.mg_none_of X G z_bool
  have g_SIZE : ∃ t, mg "SIZE" = some (.int 8 t) := ⟨t_SIZE, PySem.W.mg_of X G y_SIZE⟩
  have g_MOST_BY_RANK : ∃ u, mg "MOST_BY_RANK" = some u ∧ repB K u (.tup [.int 1, .int 2, .int 4, .int 6, .int 10, .int 16, .int 28]) = true := ⟨t_MOST_BY_RANK, PySem.W.mg_of X G y_MOST_BY_RANK, r_MOST_BY_RANK⟩
  have F0 := fun_mk (st := s_row_product) l0 c0 k0
  have b0 := F0.binds (ps := ["one", "other"]) fun _ _ _ _ _ _ us hl => match us, hl with | [_, _], _ => rfl
  have g0 := PySem.W.mg_of X G a0
  have F1 := fun_mk (st := s_row_less) l1 c1 k1
  have b1 := F1.binds (ps := ["one", "other"]) fun _ _ _ _ _ _ us hl => match us, hl with | [_, _], _ => rfl
  have g1 := PySem.W.mg_of X G a1
  have F2 := fun_mk (st := s_even_roots) l2 c2 k2
  have b2 := F2.binds (ps := []) fun _ _ _ _ _ _ us hl => match us, hl with | [], _ => rfl
  have g2 := PySem.W.mg_of X G a2
  have F3 := fun_mk (st := s_odd_roots) l3 c3 k3
  have b3 := F3.binds (ps := []) fun _ _ _ _ _ _ us hl => match us, hl with | [], _ => rfl
  have g3 := PySem.W.mg_of X G a3
  have F4 := fun_mk (st := s_all_roots) l4 c4 k4
  have b4 := F4.binds (ps := []) fun _ _ _ _ _ _ us hl => match us, hl with | [], _ => rfl
  have g4 := PySem.W.mg_of X G a4
  have F5 := fun_mk (st := s_roots_with) l5 c5 k5
  have b5 := F5.binds (ps := ["row", "product"]) fun _ _ _ _ _ _ us hl => match us, hl with | [_, _], _ => rfl
  have g5 := PySem.W.mg_of X G a5
  have F6 := fun_mk (st := s_fifty_six) l6 c6 k6
  have b6 := F6.binds (ps := ["root"]) fun _ _ _ _ _ _ us hl => match us, hl with | [_], _ => rfl
  have g6 := PySem.W.mg_of X G a6
  have F7 := fun_mk (st := s_twenty_eight) l7 c7 k7
  have b7 := F7.binds (ps := ["root"]) fun _ _ _ _ _ _ us hl => match us, hl with | [_], _ => rfl
  have g7 := PySem.W.mg_of X G a7
  have F8 := fun_mk (st := s_lines_of) l8 c8 k8
  have b8 := F8.binds (ps := ["root"]) fun _ _ _ _ _ _ us hl => match us, hl with | [_], _ => rfl
  have g8 := PySem.W.mg_of X G a8
  have F9 := fun_mk (st := s_triple_sign) l9 c9 k9
  have b9 := F9.binds (ps := ["rows", "i", "j", "k"]) fun _ _ _ _ _ _ us hl => match us, hl with | [_, _, _, _], _ => rfl
  have g9 := PySem.W.mg_of X G a9
  have F10 := fun_mk (st := s_even_triples) l10 c10 k10
  have b10 := F10.binds (ps := ["rows"]) fun _ _ _ _ _ _ us hl => match us, hl with | [_], _ => rfl
  have g10 := PySem.W.mg_of X G a10
  have F11 := fun_mk (st := s_most_at_angle) l11 c11 k11
  have b11 := F11.binds (ps := ["n"]) fun _ _ _ _ _ _ us hl => match us, hl with | [_], _ => rfl
  have g11 := PySem.W.mg_of X G a11
  have F12 := fun_mk (st := s__law_feed) l12 c12 k12
  have b12 := F12.binds (ps := ["script"]) fun _ _ _ _ _ _ us hl => match us, hl with | [_], _ => rfl
  have g12 := PySem.W.mg_of X G a12
  have F13 := fun_mk (st := s__law_draw) l13 c13 k13
  have b13 := F13.binds (ps := ["feed", "many"]) fun _ _ _ _ _ _ us hl => match us, hl with | [_, _], _ => rfl
  have g13 := PySem.W.mg_of X G a13
  have F14 := fun_mk (st := s__law_is_whole) l14 c14 k14
  have b14 := F14.binds (ps := ["x"]) fun _ _ _ _ _ _ us hl => match us, hl with | [_], _ => rfl
  have g14 := PySem.W.mg_of X G a14
  have F15 := fun_mk (st := s__law_all_roots) l15 c15 k15
  have b15 := F15.binds (ps := []) fun _ _ _ _ _ _ us hl => match us, hl with | [], _ => rfl
  have g15 := PySem.W.mg_of X G a15
  have F16 := fun_mk (st := s__law_dot) l16 c16 k16
  have b16 := F16.binds (ps := ["one", "other"]) fun _ _ _ _ _ _ us hl => match us, hl with | [_, _], _ => rfl
  have g16 := PySem.W.mg_of X G a16
  have F17 := fun_mk (st := s__law_lines) l17 c17 k17
  have b17 := F17.binds (ps := ["roots", "root"]) fun _ _ _ _ _ _ us hl => match us, hl with | [_, _], _ => rfl
  have g17 := PySem.W.mg_of X G a17
  have F18 := fun_mk (st := s__law_rank) l18 c18 k18
  have b18 := F18.binds (ps := ["rows"]) fun _ _ _ _ _ _ us hl => match us, hl with | [_], _ => rfl
  have g18 := PySem.W.mg_of X G a18
  have F19 := fun_mk (st := s__law_clear) l19 c19 k19
  have b19 := F19.binds (ps := ["rows"]) fun _ _ _ _ _ _ us hl => match us, hl with | [_], _ => rfl
  have g19 := PySem.W.mg_of X G a19
  have F20 := fun_mk (st := s__law_spanned) l20 c20 k20
  have b20 := F20.binds (ps := ["rows", "lines"]) fun _ _ _ _ _ _ us hl => match us, hl with | [_, _], _ => rfl
  have g20 := PySem.W.mg_of X G a20
  have F21 := fun_mk (st := s__law_signs) l21 c21 k21
  have b21 := F21.binds (ps := ["rows"]) fun _ _ _ _ _ _ us hl => match us, hl with | [_], _ => rfl
  have g21 := PySem.W.mg_of X G a21
  have F22 := fun_mk (st := s__law_chosen) l22 c22 k22
  have b22 := F22.binds (ps := ["feed", "roots", "root", "lines"]) fun _ _ _ _ _ _ us hl => match us, hl with | [_, _, _, _], _ => rfl
  have g22 := PySem.W.mg_of X G a22
  have F23 := fun_mk (st := s__law_right) l23 c23 k23
  have b23 := F23.binds (ps := ["feed", "roots", "root"]) fun _ _ _ _ _ _ us hl => match us, hl with | [_, _, _], _ => rfl
  have g23 := PySem.W.mg_of X G a23
  have F24 := fun_mk (st := s_law) l24 c24 k24
  have b24 := F24.binds (ps := ["script"]) fun _ _ _ _ _ _ us hl => match us, hl with | [_], _ => rfl
  have g24 := PySem.W.mg_of X G a24
  refine ⟨PySem.W.fnOf "law" "law" (defArgs s_law) (defBody s_law) (defScope s_law) .none kV24 dc24 pm24 an24 cd24 ct24, fun s v => .of_eq rfl, fun base _ _ => ?_⟩
  have c_row_product : Cal l.prog w K mg base (fun _ => none) "row_product" 1 [true, true] .o F_row_product := cal_of g0 F0.kp b0 (ok_row_product F0 m_sum m_zip)
  have c_row_less : Cal l.prog w K mg base (fun _ => none) "row_less" 1 [true, true] .o F_row_less := cal_of g1 F1.kp b1 (ok_row_less F1 m_zip)
  have c_even_roots : Cal l.prog w K mg base (fun _ => none) "even_roots" 1 [] .o F_even_roots := cal_of g2 F2.kp b2 (ok_even_roots F2 m_range g_SIZE)
  have c_odd_roots : Cal l.prog w K mg base (fun _ => none) "odd_roots" 1 [] .o F_odd_roots := cal_of g3 F3.kp b3 (ok_odd_roots F3 m_range m_sum g_SIZE)
  have c_all_roots : Cal l.prog w K mg base (fun _ => none) "all_roots" 2 [] .o F_all_roots := cal_of g4 F4.kp b4 (ok_all_roots F4 c_even_roots c_odd_roots m_sorted)
  have c_roots_with : Cal l.prog w K mg base (fun _ => none) "roots_with" 3 [true, true] .o F_roots_with := cal_of g5 F5.kp b5 (ok_roots_with F5 c_all_roots c_row_product)
  have c_fifty_six : Cal l.prog w K mg base (fun _ => none) "fifty_six" 4 [true] .o F_fifty_six := cal_of g6 F6.kp b6 (ok_fifty_six F6 c_roots_with)
  have c_twenty_eight : Cal l.prog w K mg base (fun _ => none) "twenty_eight" 5 [true] .o F_twenty_eight := cal_of g7 F7.kp b7 (ok_twenty_eight F7 c_fifty_six c_row_less)
  have c_lines_of : Cal l.prog w K mg base (fun _ => none) "lines_of" 6 [true] .o F_lines_of := cal_of g8 F8.kp b8 (ok_lines_of F8 c_twenty_eight c_row_less)
  have c_triple_sign : Cal l.prog w K mg base (fun _ => none) "triple_sign" 2 [true, true, true, true] .o F_triple_sign := cal_of g9 F9.kp b9 (ok_triple_sign F9 c_row_product)
  have c_even_triples : Cal l.prog w K mg base (fun _ => none) "even_triples" 3 [true] .s F_even_triples := cal_of g10 F10.kp b10 (ok_even_triples F10 c_triple_sign m_range m_len)
  have c_most_at_angle : Cal l.prog w K mg base (fun _ => none) "most_at_angle" 1 [true] .s F_most_at_angle := cal_of g11 F11.kp b11 (ok_most_at_angle F11 g_MOST_BY_RANK)
  have c__law_draw : Cal l.prog w K mg base (fun _ => none) "_law_draw" 1 [false, false] .s F__law_draw := cal_of g13 F13.kp b13 (ok__law_draw F13 m_len m_abs m_int)
  have c__law_is_whole : Cal l.prog w K mg base (fun _ => none) "_law_is_whole" 1 [true] .o F__law_is_whole := cal_of g14 F14.kp b14 (ok__law_is_whole F14 m_isinstance m_int m_bool)
  have c__law_all_roots : Cal l.prog w K mg base (fun _ => none) "_law_all_roots" 1 [] .o F__law_all_roots := cal_of g15 F15.kp b15 (ok__law_all_roots F15 m_range m_int m_sum m_sorted)
  have c__law_dot : Cal l.prog w K mg base (fun _ => none) "_law_dot" 1 [true, true] .o F__law_dot := cal_of g16 F16.kp b16 (ok__law_dot F16 m_sum m_range)
  have c__law_lines : Cal l.prog w K mg base (fun _ => none) "_law_lines" 2 [true, true] .o F__law_lines := cal_of g17 F17.kp b17 (ok__law_lines F17 c__law_dot m_range)
  have c__law_rank : Cal l.prog w K mg base (fun _ => none) "_law_rank" 1 [true] .s F__law_rank := cal_of g18 F18.kp b18 (ok__law_rank F18 m_list m_range m_len)
  have c__law_clear : Cal l.prog w K mg base (fun _ => none) "_law_clear" 1 [true] .o F__law_clear := cal_of g19 F19.kp b19 (ok__law_clear F19 m_list m_range m_len)
  have c__law_spanned : Cal l.prog w K mg base (fun _ => none) "_law_spanned" 2 [true, true] .o F__law_spanned := cal_of g20 F20.kp b20 (ok__law_spanned F20 c__law_clear m_list m_range m_int m_len)
  have c__law_signs : Cal l.prog w K mg base (fun _ => none) "_law_signs" 2 [true] .s F__law_signs := cal_of g21 F21.kp b21 (ok__law_signs F21 c__law_dot m_len m_range)
  have c__law_chosen : Cal l.prog w K mg base (fun _ => none) "_law_chosen" 2 [false, true, true, true] .o F__law_chosen := cal_of g22 F22.kp b22 (ok__law_chosen F22 c__law_dot c__law_draw m_len)
  have c__law_right : Cal l.prog w K mg base (fun _ => none) "_law_right" 7 [false, true, true] .o F__law_right := cal_of g23 F23.kp b23 (ok__law_right F23 c__law_lines c_lines_of c__law_is_whole c__law_dot c__law_rank c__law_draw c_even_triples c__law_signs c_triple_sign c__law_spanned c_most_at_angle c__law_chosen m_list m_isinstance m_len m_range m_abs m_int)
  exact ok_law (cls := (fun _ => none)) F24 F12 g12 b12 m_list c__law_all_roots c__law_draw c__law_right c_most_at_angle c__law_is_whole c__law_lines c_even_triples c__law_signs c__law_spanned c_lines_of m_range m_len hB
end Pf

set_option Elab.async false
set_option linter.all false
set_option maxRecDepth 100000
set_option maxHeartbeats 4000000
namespace Pf
open PySem PySem.Spec PyProof.Rows L2

/-! ## plain evaluation -/
section
variable {ρ ρ1 ρ2 : En} {φ φ1 φ2 φ3 : Fd} {A B C : SX} {d e z : D}
theorem v_ok {i : Nat} (h : ρ[i]? = some (some d)) : eVar i ρ φ = .ok d φ := by unfold eVar; rw [h]
theorem bin_ok {g : D → D → Option D} (ha : A ρ φ = .ok d φ1) (hb : B ρ φ1 = .ok e φ2) (h : g d e = some z) : eBin g A B ρ φ = .ok z φ2 := by
  unfold eBin; rw [ha]; show (B ρ φ1).bind _ = _; rw [hb]; show ofO (g d e) φ2 = _; rw [h]; rfl
theorem un_ok {g : D → Option D} (ha : A ρ φ = .ok d φ1) (h : g d = some z) : eUn g A ρ φ = .ok z φ1 := by
  unfold eUn; rw [ha]; show ofO (g d) φ1 = _; rw [h]; rfl
theorem nil_ok : aNil ρ φ = .ok [] φ := rfl
theorem cons_ok {S : SA} {ds : List D} (ha : A ρ φ = .ok d φ1) (hs : S ρ φ1 = .ok ds φ2) : aCons A S ρ φ = .ok (d :: ds) φ2 := by
  unfold aCons; rw [ha]; show (S ρ φ1).bind _ = _; rw [hs]; rfl
theorem one_ok (ha : A ρ φ = .ok d φ1) : aCons A aNil ρ φ = .ok [d] φ1 := cons_ok ha nil_ok
theorem two_ok (ha : A ρ φ = .ok d φ1) (hb : B ρ φ1 = .ok e φ2) : aCons A (aCons B aNil) ρ φ = .ok [d, e] φ2 := cons_ok ha (one_ok hb)
theorem cb_ok {S : SA} {g : List D → Option D} {ds : List D} (hs : S ρ φ = .ok ds φ1) (h : g ds = some z) : eCB g S ρ φ = .ok z φ1 := by
  unfold eCB; rw [hs]; show ofO (g ds) φ1 = _; rw [h]; rfl
theorem cb1_ok {g : List D → Option D} (ha : A ρ φ = .ok d φ1) (h : g [d] = some z) : eCB g (aCons A aNil) ρ φ = .ok z φ1 := cb_ok (one_ok ha) h
theorem call_ok {S : SA} {F : Fn} {ds : List D} (hs : S ρ φ = .ok ds φ1) (h : F ds φ1 = .ok z φ2) : eCall F S ρ φ = .ok z φ2 := by
  unfold eCall; rw [hs]; exact h
theorem call0_ok {F : Fn} (h : F [] φ = .ok z φ1) : eCall0 F ρ φ = .ok z φ1 := by unfold eCall0; rw [h]
theorem lst_ok {S : SA} {ds : List D} (hs : S ρ φ = .ok ds φ1) (h : ds.length ≤ sizeLine) : eLst S ρ φ = .ok (.lst ds) φ1 := by
  unfold eLst; rw [hs]; show (if _ then _ else _) = _; rw [if_pos h]
theorem tup_ok {S : SA} {ds : List D} (hs : S ρ φ = .ok ds φ1) (h : ds.length ≤ sizeLine) : eTup S ρ φ = .ok (.tup ds) φ1 := by
  unfold eTup; rw [hs]; show (if _ then _ else _) = _; rw [if_pos h]
/-! tests -/
variable {S T : SB} {b k : Bool}
theorem cmp_ok {g : D → D → Option D} (ha : A ρ φ = .ok d φ1) (hb : B ρ φ1 = .ok e φ2) (h : g d e = some (.bl b)) : bCmp g A B ρ φ = .ok b φ2 := by
  unfold bCmp bVal; rw [bin_ok ha hb h]; rfl
theorem tru_ok (ha : A ρ φ = .ok d φ1) (h : truD d = some b) : bTru A ρ φ = .ok b φ1 := by
  unfold bTru; rw [ha]; show ofO (truD d) φ1 = _; rw [h]; rfl
theorem trub_ok (ha : A ρ φ = .ok (.bl b) φ1) : bTru A ρ φ = .ok b φ1 := tru_ok ha (show some b = some b from rfl)
theorem not_ok (ha : S ρ φ = .ok b φ1) : bNot S ρ φ = .ok (!b) φ1 := by unfold bNot; rw [ha]; rfl
theorem or_no (ha : S ρ φ = .ok false φ1) (hb : T ρ φ1 = .ok b φ2) : bOr S T ρ φ = .ok b φ2 := by
  unfold bOr; rw [ha]; exact hb
theorem or_yes (ha : S ρ φ = .ok true φ1) : bOr S T ρ φ = .ok true φ1 := by unfold bOr; rw [ha]; rfl
theorem or_ok (ha : S ρ φ = .ok b φ1) (hb : b = false → T ρ φ1 = .ok k φ1) : bOr S T ρ φ = .ok (b || k) φ1 := by
  cases b with
  | true => rw [or_yes ha]; rfl
  | false => rw [or_no ha (hb rfl)]; rfl
theorem and_yes (ha : S ρ φ = .ok true φ1) (hb : T ρ φ1 = .ok b φ2) : bAnd S T ρ φ = .ok b φ2 := by
  unfold bAnd; rw [ha]; exact hb
theorem and_no (ha : S ρ φ = .ok false φ1) : bAnd S T ρ φ = .ok false φ1 := by unfold bAnd; rw [ha]; rfl
theorem and_ok (ha : S ρ φ = .ok b φ1) (hb : b = true → T ρ φ1 = .ok k φ1) : bAnd S T ρ φ = .ok (b && k) φ1 := by
  cases b with
  | false => rw [and_no ha]; rfl
  | true => rw [and_yes ha (hb rfl)]; rfl
theorem still_ok (ha : S ρ φ = .ok b φ1) : bStill S ρ φ = .ok b φ1 := by unfold bStill; rw [ha]; rfl
theorem eand_yes (ha : A ρ φ = .ok (.bl true) φ1) (hb : B ρ φ1 = .ok d φ2) : eAnd A B ρ φ = .ok d φ2 := by unfold eAnd; rw [ha]; exact hb
theorem eand_no (ha : A ρ φ = .ok (.bl false) φ1) : eAnd A B ρ φ = .ok (.bl false) φ1 := by unfold eAnd; rw [ha]; rfl
theorem eor_no (ha : A ρ φ = .ok (.bl false) φ1) (hb : B ρ φ1 = .ok d φ2) : eOr A B ρ φ = .ok d φ2 := by unfold eOr; rw [ha]; exact hb
theorem enot_ok (ha : A ρ φ = .ok (.bl b) φ1) : eNot A ρ φ = .ok (.bl (!b)) φ1 := by unfold eNot; rw [ha]; rfl
theorem eif_yes (ha : S ρ φ = .ok true φ1) (hb : A ρ φ1 = .ok d φ2) : eIf S A B ρ φ = .ok d φ2 := by unfold eIf; rw [ha]; exact hb
theorem eif_no (ha : S ρ φ = .ok false φ1) (hb : B ρ φ1 = .ok d φ2) : eIf S A B ρ φ = .ok d φ2 := by unfold eIf; rw [ha]; exact hb
/-! statements -/
variable {P Q : SS} {r : R}
theorem seq_nx (h1 : P ρ φ = .nx ρ1 φ1) (h2 : Q ρ1 φ1 = r) : sSeq P Q ρ φ = r := by unfold sSeq; rw [h1]; exact h2
theorem seq_rt (h1 : P ρ φ = .rt d φ1) : sSeq P Q ρ φ = .rt d φ1 := by unfold sSeq; rw [h1]; rfl
theorem seq_one (h1 : P ρ φ = .nx ρ1 φ1) : sSeq P sNil ρ φ = .nx ρ1 φ1 := seq_nx h1 rfl
theorem set_ok {i : Nat} (h : A ρ φ = .ok d φ1) : sSet i A ρ φ = .nx (ρ.set i (some d)) φ1 := by unfold sSet; rw [h]; rfl
theorem ret_ok (h : A ρ φ = .ok d φ1) : sRet A ρ φ = .rt d φ1 := by unfold sRet; rw [h]; rfl
theorem if_yes (h : S ρ φ = .ok true φ1) (h2 : P ρ φ1 = r) : sIf S P Q ρ φ = r := by unfold sIf; rw [h]; exact h2
theorem if_no (h : S ρ φ = .ok false φ1) (h2 : Q ρ φ1 = r) : sIf S P Q ρ φ = r := by unfold sIf; rw [h]; exact h2
/-- a test that must not hold -/
theorem if_skip (h : S ρ φ = .ok false φ1) : sIf S P sNil ρ φ = .nx ρ φ1 := if_no h rfl
theorem app_ok {i : Nat} {l : List D} (hi : ρ[i]? = some (some (.lst l))) (h : A ρ φ = .ok d φ1) (hl : l.length < sizeLine) : sMut i gApp A ρ φ = .nx (ρ.set i (some (.lst (l ++ [d])))) φ1 := by
  unfold sMut; rw [hi]; show (A ρ φ).toR ρ _ = _; rw [h]; show (match gApp l d with | some l' => R.nx (ρ.set i (some (.lst l'))) φ1 | none => .bad) = _
  unfold gApp; rw [if_pos hl]
theorem ext_ok {i : Nat} {l k : List D} (hi : ρ[i]? = some (some (.lst l))) (h : A ρ φ = .ok (.lst k) φ1) (hl : l.length + k.length ≤ sizeLine) : sMut i gExt A ρ φ = .nx (ρ.set i (some (.lst (l ++ k)))) φ1 := by
  unfold sMut; rw [hi]; show (A ρ φ).toR ρ _ = _; rw [h]; show (match gExt l (.lst k) with | some l' => R.nx (ρ.set i (some (.lst l'))) φ1 | none => .bad) = _
  unfold gExt; dsimp only; rw [if_pos hl]
theorem aug_ok {i : Nat} {f : Int → Int → Int} {n m : Int} (hi : ρ[i]? = some (some (.int n))) (h : A ρ φ = .ok (.int m) φ1) : sAug i f A ρ φ = .nx (ρ.set i (some (.int (f n m)))) φ1 := by
  unfold sAug; rw [hi]; show (A ρ φ).toR ρ _ = _; rw [h]; rfl
theorem scope_nx {own1 : List Ms} (h1 : P ρ φ = .nx ρ1 φ1) (h2 : Q (enOut own1 ρ1) φ1 = r) : sScope own1 P Q ρ φ = r := by unfold sScope; rw [h1]; exact h2
theorem scope_rt {own1 : List Ms} (h1 : P ρ φ = .rt d φ1) : sScope own1 P Q ρ φ = .rt d φ1 := by unfold sScope; rw [h1]
theorem for_ok {I : SA} {T : Tg} {ds : List D} (hI : I ρ φ = .ok ds φ1) (h : forGo T P ds ρ φ1 = r) : sFor I T P ρ φ = r := by unfold sFor; rw [hI]; exact h
theorem run_rt {n s : Nat} {ds : List D} (h : P (ds.map some ++ List.replicate (s - n) none) φ = .rt d φ1) : runB P n s ds φ = .ok d φ1 := by unfold runB; rw [h]
theorem run_nx {n s : Nat} {ds : List D} (h : P (ds.map some ++ List.replicate (s - n) none) φ = .nx ρ1 φ1) : runB P n s ds φ = .ok .non φ1 := by unfold runB; rw [h]
theorem run_ret {n s : Nat} {ds : List D} (h : A (ds.map some ++ List.replicate (s - n) none) φ = .ok d φ1) : runB (sSeq (sRet A) sNil) n s ds φ = .ok d φ1 := run_rt (seq_rt (ret_ok h))
end
/-! iterators -/
section
variable {ρ : En} {φ φ1 : Fd} {A : SX} {d : D}
theorem seq_l {l : List D} (h : A ρ φ = .ok (.lst l) φ1) : iSeq A ρ φ = .ok l φ1 := by unfold iSeq; rw [h]; rfl
theorem seq_t {l : List D} (h : A ρ φ = .ok (.tup l) φ1) : iSeq A ρ φ = .ok l φ1 := by unfold iSeq; rw [h]; rfl
theorem upTo_eq (n : Nat) (a : Int) : upTo a n = (List.range n).map fun (k : Nat) => D.int (a + k) := by
  refine List.ext_getElem? fun i => ?_
  by_cases h : i < n
  · rw [upTo_get n a i h, List.getElem?_map, List.getElem?_range h]; rfl
  · rw [List.getElem?_eq_none (by rw [upTo_len]; omega), List.getElem?_eq_none (by simp; omega)]
theorem bind_ok' {α β : Type} {x : O α} {a : α} {k : α → Fd → O β} (h : x = .ok a φ1) : x.bind k = k a φ1 := by rw [h]; rfl
theorem ofO_some {α : Type} {o : Option α} {a : α} (h : o = some a) : ofO o φ1 = .ok a φ1 := by rw [h]; rfl
theorem small62_of {j : Int} (h : -4611686018427387904 ≤ j ∧ j < 4611686018427387904) : small62 j = true := by
  unfold small62
  rw [Bool.and_eq_true, decide_eq_true_eq, decide_eq_true_eq]
  exact h
theorem rg1_some {n : Nat} (hn : n < 1000000000) : rg1 [.int (n : Int)] = some (upTo 0 n) := by
  have h1 : rg1 [.int (n : Int)] = if small62 (n : Int) then some (upTo 0 (n : Int).toNat) else none := by rw [rg1]
  rw [h1, small62_of ⟨by omega, by omega⟩, if_pos rfl, Int.toNat_natCast]
theorem rg1_ok {S : SA} {n : Nat} (h : S ρ φ = .ok [.int (n : Int)] φ1) (hn : n < 1000000000) : iRg1 S ρ φ = .ok ((List.range n).map fun (k : Nat) => D.int k) φ1 := by
  unfold iRg1
  rw [bind_ok' h, ofO_some (rg1_some hn), upTo_eq]
  congr 1
  exact List.map_congr_left fun k _ => by rw [Int.zero_add]
theorem rg2_some {a b : Int} (ha : small62 a = true) (hb : small62 b = true) : rg2 [.int a, .int b] = some (upTo a (b - a).toNat) := by
  have h1 : rg2 [.int a, .int b] = if (small62 a && small62 b) = true then some (upTo a (b - a).toNat) else none := by rw [rg2]
  rw [h1, ha, hb]; exact if_pos (by decide)
theorem rg2_ok {S : SA} {a b : Int} (h : S ρ φ = .ok [.int a, .int b] φ1) (ha : small62 a = true) (hb : small62 b = true) : iRg2 S ρ φ = .ok ((List.range (b - a).toNat).map fun (k : Nat) => D.int (a + k)) φ1 := by
  unfold iRg2
  rw [bind_ok' h, ofO_some (rg2_some ha hb), upTo_eq]
end
/-! comprehensions over mapped lists -/
section
variable {α : Type} {T : Tg} {tst : SB} {elt : SX} {ρ : En} {φ : Fd}
theorem lcGo_map (e : α → D) (p : α → Bool) (g : α → D) : ∀ (xs : List α), (∀ x ∈ xs, ∃ ρ1, T (e x) ρ = some ρ1 ∧ tst ρ1 φ = .ok (p x) φ ∧ (p x = true → elt ρ1 φ = .ok (g x) φ)) → lcGo T tst elt ρ (xs.map e) φ = .ok ((xs.filter p).map g) φ
  | [], _ => rfl
  | x :: xs, h => by
    obtain ⟨ρ1, h1, h2, h3⟩ := h x List.mem_cons_self
    have ih := lcGo_map e p g xs fun y hy => h y (List.mem_cons_of_mem _ hy)
    rw [List.map_cons]
    unfold lcGo
    rw [h1]
    simp only [h2]
    cases hp : p x with
    | false => simp only; rw [List.filter_cons_of_neg (by rw [hp]; decide)]; exact ih
    | true => simp only [h3 hp, ih]; rw [List.filter_cons_of_pos hp]; rfl
theorem lc_ok {I : SA} {vs : List Nat} {φ1 : Fd} (xs : List α) (e : α → D) (p : α → Bool) (g : α → D) (hI : I ρ φ1 = .ok (xs.map e) φ) (hl : xs.length ≤ sizeLine)
    (h : ∀ x ∈ xs, ∃ ρ1, T (e x) (wipeE ρ vs) = some ρ1 ∧ tst ρ1 φ = .ok (p x) φ ∧ (p x = true → elt ρ1 φ = .ok (g x) φ)) : eLc I T tst elt vs ρ φ1 = .ok (.lst ((xs.filter p).map g)) φ := by
  unfold eLc
  rw [hI]
  show (match lcGo T tst elt (wipeE ρ vs) (xs.map e) φ with | .ok ys φ2 => if ys.length ≤ sizeLine then O.ok (D.lst ys) φ2 else .bad | _ => .bad) = _
  rw [lcGo_map e p g xs h]
  show (if _ then _ else _) = _
  rw [if_pos (by rw [List.length_map]; exact Nat.le_trans (List.length_filter_le _ _) hl)]
/-- without a test -/
theorem lcm_ok {I : SA} {vs : List Nat} {φ1 : Fd} (xs : List α) (e : α → D) (g : α → D) (hI : I ρ φ1 = .ok (xs.map e) φ) (hl : xs.length ≤ sizeLine)
    (h : ∀ x ∈ xs, ∃ ρ1, T (e x) (wipeE ρ vs) = some ρ1 ∧ elt ρ1 φ = .ok (g x) φ) : eLc I T bYes elt vs ρ φ1 = .ok (.lst (xs.map g)) φ := by
  have := lc_ok (tst := bYes) xs e (fun _ => true) g hI hl fun x hx => by
    obtain ⟨ρ1, h1, h2⟩ := h x hx
    exact ⟨ρ1, h1, rfl, fun _ => h2⟩
  rw [this, List.filter_eq_self.mpr fun _ _ => rfl]
/-- a loop with what holds of the slots -/
theorem for_inv {B : SS} {e : α → D} (P : List α → En → Prop) : ∀ (xs pre : List α) {ρ : En}, P pre ρ → (∀ (pre' : List α) (x : α) (post : List α) (ρ : En), pre ++ xs = pre' ++ x :: post → P pre' ρ → ∃ ρ1, T (e x) ρ = some ρ1 ∧ ∃ ρ2, (B ρ1 φ = .nx ρ2 φ ∨ B ρ1 φ = .ct ρ2 φ) ∧ P (pre' ++ [x]) ρ2) →
    ∃ ρ', forGo T B (xs.map e) ρ φ = .nx ρ' φ ∧ P (pre ++ xs) ρ'
  | [], pre, ρ, h0, _ => ⟨ρ, rfl, by simpa using h0⟩
  | x :: xs, pre, ρ, h0, hs => by
    obtain ⟨ρ1, h1, ρ2, h2, h3⟩ := hs pre x xs ρ rfl h0
    obtain ⟨ρ', h4, h5⟩ := for_inv (B := B) (e := e) P xs (pre ++ [x]) h3 fun pre' y post ρ e' hp => hs pre' y post ρ (by rw [← e']; simp) hp
    refine ⟨ρ', ?_, by simpa using h5⟩
    rw [List.map_cons]
    unfold forGo
    rw [h1]
    rcases h2 with h2 | h2 <;> simp only [h2] <;> exact h4
end

/-! ## rows -/
def row (r : List Int) : D := .lst (r.map .int)
def rws (l : List (List Int)) : D := .lst (l.map row)
theorem gSum_ints (ns : List Int) : gSum [row ns] = some (.int ns.sum) := by
  show (intsOf (ns.map D.int)).map (fun ns => D.int ns.sum) = _
  rw [intsOf_map]; rfl
theorem gSum_ints' (ns : List Int) : gSum [.lst (ns.map .int)] = some (.int ns.sum) := gSum_ints ns
theorem gMul_ok' {i j : Int} (h : i.natAbs < 18446744073709551616) : gMul (.int i) (.int j) = some (.int (i * j)) := by
  show (if cMul i j = true then _ else _) = _
  rw [if_pos]
  unfold cMul
  simp [h]
theorem gDiv_ok {i j : Int} (h0 : j ≠ 0) (h1 : j.natAbs < 1073741824) : gDiv (.int i) (.int j) = some (.int (i.fdiv j)) := by
  show (if cDiv i j = true then _ else _) = _
  rw [if_pos]
  unfold cDiv
  simp [h0, h1]
theorem gMod_ok {i j : Int} (h0 : j ≠ 0) : gMod (.int i) (.int j) = some (.int (i.fmod j)) := by
  show (if decide (j ≠ 0) = true then _ else _) = _
  rw [if_pos (by simp [h0])]
theorem gIx_row {r : List Int} {k : Nat} {x : Int} (h : r[k]? = some x) : gIx (row r) (.int (k : Int)) = some (.int x) := by
  show atI (r.map D.int) (k : Int) = _
  rw [atI_nat (by rw [List.getElem?_map, h]; rfl)]
theorem gIx_lst {l : List D} {k : Nat} {x : D} (h : l[k]? = some x) : gIx (.lst l) (.int (k : Int)) = some x := by
  show atI l (k : Int) = _
  rw [atI_nat h]
theorem size_le {n : Nat} (h : n ≤ 1000000) : n ≤ sizeLine := by rw [sizeLine_eq]; omega
theorem size_lt {n : Nat} (h : n ≤ 1000000) : n < sizeLine := by rw [sizeLine_eq]; omega
end Pf

set_option Elab.async false
set_option linter.all false
set_option maxRecDepth 100000
set_option maxHeartbeats 4000000
namespace Pf
open PySem PySem.Spec PyProof.Rows L2

/-! ## data of one shape: equality and order -/
def ltL {α : Type} [DecidableEq α] (lt : α → α → Bool) : List α → List α → Bool
  | [], [] => false
  | [], _ :: _ => true
  | _ :: _, [] => false
  | a :: r, b :: s => if a = b then ltL lt r s else lt a b
structure Tot {α : Type} (lt : α → α → Bool) : Prop where
  irr : ∀ a, lt a a = false
  tr : ∀ a b c, lt a b = true → lt b c = true → lt a c = true
  tri : ∀ a b, lt a b = false → lt b a = false → a = b
theorem Tot.asym {α : Type} {lt : α → α → Bool} (h : Tot lt) {a b : α} (q : lt a b = true) : lt b a = false := by
  cases e : lt b a with
  | false => rfl
  | true => have := h.tr a b a q e; rw [h.irr] at this; cases this
theorem tot_int : Tot (fun a b : Int => decide (a < b)) := ⟨fun a => by simp, fun a b c h1 h2 => by simp at *; omega, fun a b h1 h2 => by simp at *; omega⟩
theorem tot_lst {α : Type} [DecidableEq α] {lt : α → α → Bool} (h : Tot lt) : Tot (ltL lt) := by
  refine ⟨fun a => ?_, fun a => ?_, fun a => ?_⟩
  · induction a with
    | nil => rfl
    | cons x r ih => show (if x = x then _ else _) = _; rw [if_pos rfl]; exact ih
  · induction a with
    | nil => intro b c h1 h2; cases b <;> cases c <;> first | (cases h1; done) | (cases h2; done) | rfl
    | cons x r ih =>
      intro b c h1 h2
      cases b with
      | nil => cases h1
      | cons y s =>
        cases c with
        | nil => cases h2
        | cons z t =>
          have h1' : (if x = y then ltL lt r s else lt x y) = true := h1
          have h2' : (if y = z then ltL lt s t else lt y z) = true := h2
          show (if x = z then ltL lt r t else lt x z) = true
          by_cases e1 : x = y
          · rw [if_pos e1] at h1'
            subst e1
            by_cases e2 : x = z
            · rw [if_pos e2] at h2' ⊢; exact ih s t h1' h2'
            · rw [if_neg e2] at h2' ⊢; exact h2'
          · rw [if_neg e1] at h1'
            by_cases e2 : y = z
            · subst e2
              rw [if_neg e1]; exact h1'
            · rw [if_neg e2] at h2'
              by_cases e3 : x = z
              · subst e3
                have := h.tr _ _ _ h1' h2'
                rw [h.irr] at this; cases this
              · rw [if_neg e3]; exact h.tr _ _ _ h1' h2'
  · induction a with
    | nil => intro b h1 h2; cases b <;> first | rfl | (cases h1; done)
    | cons x r ih =>
      intro b h1 h2
      cases b with
      | nil => cases h2
      | cons y s =>
        have h1' : (if x = y then ltL lt r s else lt x y) = false := h1
        have h2' : (if y = x then ltL lt s r else lt y x) = false := h2
        by_cases e1 : x = y
        · subst e1
          rw [if_pos rfl] at h1' h2'
          rw [ih s h1' h2']
        · rw [if_neg e1] at h1'
          rw [if_neg (Ne.symm e1)] at h2'
          exact absurd (h.tri _ _ h1' h2') e1
/-- data f x, compared as x -/
structure Emb {α : Type} [DecidableEq α] (f : α → D) (lt : α → α → Bool) (n : Nat) : Prop where
  al : ∀ x y, PySem.W.alike (f x).py (f y).py = true
  eq : ∀ x y, PyData.eqv (f x).py (f y).py = decide (x = y)
  lt : ∀ x y, ltD (f x) (f y) = lt x y
  lay : ∀ x, (f x).py.canLay0 = true
  dep : ∀ x, (f x).py.depth ≤ n
  nn : ∀ x, f x ≠ .non
  nt : ∀ x l, f x ≠ .tup l
theorem emb_int : Emb D.int (fun a b => decide (a < b)) 0 :=
  ⟨fun _ _ => rfl, fun x y => by show PyData.eqv (.int x) (.int y) = _; simp only [PyData.eqv]; rfl, fun x y => PySem.W.dataLt_int x y, fun _ => rfl, fun _ => Nat.le_refl _, fun _ h => (by cases h), fun _ _ h => (by cases h)⟩
section
variable {α : Type} [DecidableEq α] {f : α → D} {lt : α → α → Bool} {n : Nat}
theorem pys_map (xs : List α) : D.pys (xs.map f) = xs.map fun x => (f x).py := by
  induction xs with
  | nil => rfl
  | cons x r ih => show (f x).py :: D.pys (r.map f) = _; rw [ih]; rfl
theorem alikeAll_map (h : Emb f lt n) : ∀ xs ys : List α, PySem.W.alikeAll (xs.map fun x => (f x).py) (ys.map fun x => (f x).py) = true
  | [], _ => by cases ‹List α› <;> simp [PySem.W.alikeAll]
  | _ :: _, [] => by simp [PySem.W.alikeAll]
  | x :: xs, y :: ys => by
    rw [List.map_cons, List.map_cons, PySem.W.alikeAll, h.al, alikeAll_map h xs ys]; rfl
theorem eqvAll_map (h : Emb f lt n) : ∀ xs ys : List α, PyData.eqvAll (xs.map fun x => (f x).py) (ys.map fun x => (f x).py) = decide (xs = ys)
  | [], [] => by simp [PyData.eqvAll]
  | [], _ :: _ => by simp [PyData.eqvAll]
  | _ :: _, [] => by simp [PyData.eqvAll]
  | x :: xs, y :: ys => by
    rw [List.map_cons, List.map_cons, PySem.W.eqv_all_cons, h.eq, eqvAll_map h xs ys]
    by_cases e1 : x = y <;> by_cases e2 : xs = ys <;> simp [e1, e2]
theorem lt_map (h : Emb f lt n) : ∀ xs ys : List α, PyProof.Rows.lexLt itemOrd (PySem.W.keyToksAll (xs.map fun x => (f x).py)) (PySem.W.keyToksAll (ys.map fun x => (f x).py)) = ltL lt xs ys
  | [], [] => by simp [ltL, PyProof.Rows.lex_irrefl]
  | [], y :: ys => by
    rw [List.map_cons, PySem.W.toks_all_cons]
    simp only [List.map_nil, PySem.W.keyToksAll]
    rw [lex_diff (O := itemOrd) (by simp)]
    simp [ltL, itemLt]
  | x :: xs, [] => by
    rw [List.map_cons, PySem.W.toks_all_cons]
    simp only [List.map_nil, PySem.W.keyToksAll]
    rw [lex_diff (O := itemOrd) (by simp)]
    simp [ltL, itemLt]
  | x :: xs, y :: ys => by
    rw [List.map_cons, List.map_cons]
    show _ = (if x = y then ltL lt xs ys else lt x y)
    by_cases e : x = y
    · rw [if_pos e, PySem.W.dataLt_all_yes (h.al x y) (by rw [h.eq, e]; simp)]
      exact lt_map h xs ys
    · rw [if_neg e, PySem.W.dataLt_all_no (h.al x y) (by rw [h.eq]; simp [e])]
      exact h.lt x y
theorem lay_map (h : Emb f lt n) : ∀ xs : List α, PyData.canLayAll0 (xs.map fun x => (f x).py) = true
  | [] => by simp [PyData.canLayAll0]
  | x :: xs => by rw [List.map_cons, PyData.canLayAll0, h.lay, lay_map h xs]; rfl
theorem dep_map (h : Emb f lt n) : ∀ xs : List α, PyData.depthAll (xs.map fun x => (f x).py) ≤ n
  | [] => by simp [PyData.depthAll]
  | x :: xs => by
    rw [List.map_cons, PyData.depthAll]
    have h1 := h.dep x
    have h2 := dep_map h xs
    omega
theorem Emb.list (h : Emb f lt n) : Emb (fun xs : List α => D.lst (xs.map f)) (ltL lt) (n + 1) := by
  have py : ∀ xs : List α, (D.lst (xs.map f)).py = .list (xs.map fun x => (f x).py) := fun xs => by
    show PyData.list (D.pys (xs.map f)) = _
    rw [pys_map]
  refine ⟨fun x y => ?_, fun x y => ?_, fun x y => ?_, fun x => ?_, fun x => ?_, fun x e => (by cases e), fun x l e => (by cases e)⟩
  · rw [py, py, PySem.W.alike]; exact alikeAll_map h x y
  · rw [py, py, PyData.eqv]; exact eqvAll_map h x y
  · unfold ltD; rw [py, py, PySem.W.dataLt_list]; exact lt_map h x y
  · rw [py, PyData.canLay0]; exact lay_map h x
  · rw [py, PyData.depth]
    have := dep_map h x
    omega
theorem Emb.shp (h : Emb f lt n) (hn : n ≤ 64) (x : α) : (f x).shp = true := by
  unfold D.shp SeqAt.shaped
  rw [h.lay, Bool.true_and, decide_eq_true_eq]
  have := h.dep x
  omega
theorem Emb.gEq (h : Emb f lt n) (hn : n ≤ 64) (x y : α) : gEq (f x) (f y) = some (.bl (decide (x = y))) := by
  unfold Pf.gEq
  rw [h.shp hn, h.shp hn]
  show some (D.bl _) = _
  rw [h.eq]
theorem Emb.gNe (h : Emb f lt n) (hn : n ≤ 64) (x y : α) : gNe (f x) (f y) = some (.bl (!decide (x = y))) := by
  unfold Pf.gNe
  rw [h.shp hn, h.shp hn]
  show some (D.bl _) = _
  rw [h.eq]
theorem Emb.gIn (h : Emb f lt n) (hn : n < 64) (neg : Bool) (x : α) (l : List α) : gIn neg (f x) (.lst (l.map f)) = some (.bl (if neg then !decide (x ∈ l) else decide (x ∈ l))) := by
  unfold Pf.gIn
  have h1 : gInB (f x) (.lst (l.map f)) = some (decide (x ∈ l)) := by
    have hs := h.list.shp (n := n + 1) (by omega) l
    have h0 : gInB (f x) (.lst (l.map f)) = if (f x).shp && (D.lst (l.map f)).shp then some ((l.map f).any fun z => PyData.eqv z.py (f x).py) else none := by
      unfold gInB
      rfl
    rw [h0, h.shp (by omega), hs]
    show some _ = _
    congr 1
    rw [List.any_map]
    induction l with
    | nil => rfl
    | cons y l ih =>
      rw [List.any_cons, ih (h.list.shp (n := n + 1) (by omega) l) (by unfold gInB; rfl)]
      show (PyData.eqv (f y).py (f x).py || _) = _
      rw [h.eq]
      by_cases e : y = x <;> by_cases e2 : x ∈ l <;> simp [e, e2, eq_comm]
      all_goals simp [Ne.symm e]
  rw [h1]
  rfl
def leL (lt : α → α → Bool) (x y : α) : Bool := !lt y x
theorem Emb.okSort (h : Emb f lt n) (hn : n ≤ 64) (l : List α) : okSort (l.map f) := by
  refine ⟨fun d hd e he => ?_, fun d hd => ?_, .inr fun d hd => ?_⟩
  · obtain ⟨x, _, rfl⟩ := List.mem_map.mp hd
    obtain ⟨y, _, rfl⟩ := List.mem_map.mp he
    exact h.al x y
  · obtain ⟨x, _, rfl⟩ := List.mem_map.mp hd
    exact h.shp hn x
  · obtain ⟨x, _, rfl⟩ := List.mem_map.mp hd
    exact ⟨h.nn x, h.nt x⟩
theorem Emb.sort (h : Emb f lt n) (l : List α) : sortD (l.map f) = (l.mergeSort (leL lt)).map f :=
  (List.map_mergeSort (f := f) (r := leL lt) (s := leD) fun a _ b _ => by unfold leL leD; rw [h.lt]).symm
theorem Emb.gSorted (h : Emb f lt n) (hn : n ≤ 64) (l : List α) : gSorted [.lst (l.map f)] = some (.lst ((l.mergeSort (leL lt)).map f)) := by
  rw [gSorted_l (h.okSort hn l), h.sort]
/-- the sorted list is the only one -/
theorem sorted_uniq (T : Tot lt) : ∀ {l m : List α}, l.Pairwise (fun a b => leL lt a b = true) → m.Pairwise (fun a b => leL lt a b = true) → l.Perm m → l = m
  | [], m, _, _, h => (List.Perm.nil_eq h)
  | x :: l, [], _, _, h => by cases h.length_eq
  | x :: l, y :: m, h1, h2, h => by
    have e : x = y := by
      obtain ⟨p1, q1⟩ := List.pairwise_cons.mp h1
      obtain ⟨p2, q2⟩ := List.pairwise_cons.mp h2
      rcases List.mem_cons.mp (h.mem_iff.mp List.mem_cons_self) with e | hx
      · exact e
      · rcases List.mem_cons.mp (h.mem_iff.mpr (List.mem_cons_self (a := y) (l := m))) with e | hy
        · exact e.symm
        · have a1 := p2 x hx
          have a2 := p1 y hy
          unfold leL at a1 a2
          exact T.tri x y (by simpa using a1) (by simpa using a2)
    subst e
    rw [sorted_uniq T (List.pairwise_cons.mp h1).2 (List.pairwise_cons.mp h2).2 h.cons_inv]
theorem leL_trans (T : Tot lt) (a b c : α) (h1 : leL lt a b = true) (h2 : leL lt b c = true) : leL lt a c = true := by
  unfold leL at *
  rw [Bool.not_eq_true'] at *
  cases e : lt c a with
  | false => rfl
  | true =>
    cases e1 : lt a b with
    | true => have := T.tr c a b e e1; rw [h2] at this; cases this
    | false =>
      have := T.tri a b e1 h1
      subst this
      rw [h2] at e; cases e
theorem leL_total (T : Tot lt) (a b : α) : (leL lt a b || leL lt b a) = true := by
  unfold leL
  cases e : lt b a with
  | false => rfl
  | true => rw [T.asym e]; rfl
theorem sort_pw (T : Tot lt) (l : List α) : (l.mergeSort (leL lt)).Pairwise fun a b => leL lt a b = true :=
  List.pairwise_mergeSort (leL_trans T) (leL_total T) l
theorem sort_is (T : Tot lt) {l m : List α} (h1 : m.Pairwise fun a b => leL lt a b = true) (h2 : m.Perm l) : l.mergeSort (leL lt) = m :=
  sorted_uniq T (sort_pw T l) h1 ((List.mergeSort_perm l _).trans h2.symm)
theorem sort_perm (T : Tot lt) {l m : List α} (h : l.Perm m) : l.mergeSort (leL lt) = m.mergeSort (leL lt) :=
  sort_is T (sort_pw T m) ((List.mergeSort_perm m _).trans h.symm)
end
abbrev ltI : Int → Int → Bool := fun a b => decide (a < b)
abbrev ltR : List Int → List Int → Bool := ltL ltI
abbrev ltRR : List (List Int) → List (List Int) → Bool := ltL ltR
theorem emb_row : Emb row ltR 1 := emb_int.list
theorem emb_rws : Emb rws ltRR 2 := emb_row.list
theorem tot_row : Tot ltR := tot_lst tot_int
theorem tot_rws : Tot ltRR := tot_lst tot_row
end Pf

set_option Elab.async false
set_option linter.all false
set_option maxRecDepth 100000
set_option maxHeartbeats 4000000
namespace Pf
open PySem PySem.Spec PyProof.Rows L2
def d5 (n : Nat) : Int := match n with
  | 0 => -2
  | 1 => -1
  | 2 => 0
  | 3 => 1
  | _ => 2
def dec (n : Nat) : List Int := [d5 (n / 78125 % 5), d5 (n / 15625 % 5), d5 (n / 3125 % 5), d5 (n / 625 % 5), d5 (n / 125 % 5), d5 (n / 25 % 5), d5 (n / 5 % 5), d5 (n % 5)]
def codes : List Nat := [7812, 32812, 37812, 38812, 39012, 39052, 39060, 39064, 39072, 39112, 39312, 40312, 45312, 70312, 97656, 97668, 97708, 97716, 97908, 97916, 97956, 97968, 98908, 98916, 98956, 98968, 99156, 99168, 99208, 99216, 103908, 103916, 103956, 103968, 104156, 104168, 104208, 104216, 105156, 105168, 105208, 105216, 105408, 105416, 105456, 105468, 128908, 128916, 128956, 128968, 129156, 129168, 129208, 129216, 130156, 130168, 130208, 130216, 130408, 130416, 130456, 130468, 135156, 135168, 135208, 135216, 135408, 135416, 135456, 135468, 136408, 136416, 136456, 136468, 136656, 136668, 136708, 136716, 157812, 162812, 163812, 164012, 164052, 164060, 164064, 164072, 164112, 164312, 165312, 170312, 187812, 188812, 189012, 189052, 189060, 189064, 189072, 189112, 189312, 190312, 193812, 194012, 194052, 194060, 194064, 194072, 194112, 194312, 195012, 195052, 195060, 195064, 195072, 195112, 195252, 195260, 195264, 195272, 195300, 195304, 195320, 195324, 195352, 195360, 195364, 195372, 195512, 195552, 195560, 195564, 195572, 195612, 196312, 196512, 196552, 196560, 196564, 196572, 196612, 196812, 200312, 201312, 201512, 201552, 201560, 201564, 201572, 201612, 201812, 202812, 220312, 225312, 226312, 226512, 226552, 226560, 226564, 226572, 226612, 226812, 227812, 232812, 253908, 253916, 253956, 253968, 254156, 254168, 254208, 254216, 255156, 255168, 255208, 255216, 255408, 255416, 255456, 255468, 260156, 260168, 260208, 260216, 260408, 260416, 260456, 260468, 261408, 261416, 261456, 261468, 261656, 261668, 261708, 261716, 285156, 285168, 285208, 285216, 285408, 285416, 285456, 285468, 286408, 286416, 286456, 286468, 286656, 286668, 286708, 286716, 291408, 291416, 291456, 291468, 291656, 291668, 291708, 291716, 292656, 292668, 292708, 292716, 292908, 292916, 292956, 292968, 320312, 345312, 350312, 351312, 351512, 351552, 351560, 351564, 351572, 351612, 351812, 352812, 357812, 382812]
/-- the 240 roots, ascending -/
def RT : List (List Int) := codes.map dec
def EV : List (List Int) := (List.range 8).flatMap fun j => (List.range j).flatMap fun i => [((2 : Int), (2 : Int)), (2, -2), (-2, 2), (-2, -2)].map fun p => ((List.replicate 8 (0 : Int)).set i p.1).set j p.2
def grow : Nat → List (List Int)
  | 0 => [[]]
  | n + 1 => (grow n).flatMap fun r => [r ++ [(-1 : Int)], r ++ [1]]
def OD : List (List Int) := (grow 8).filter fun r => r.sum.fmod 4 == 0
def LR : List (List Int) := ((List.range 8).flatMap fun i => (List.range (8 - (i + 1))).flatMap fun t => [(-2 : Int), 2].flatMap fun a => [(-2 : Int), 2].map fun b => ((List.replicate 8 (0 : Int)).set i a).set (i + 1 + t) b) ++
  ((List.range 256).map fun bits => (List.range 8).map fun k => 1 - 2 * (((bits >>> k) % 2 : Nat) : Int)).filter fun r => r.sum.fmod 4 == 0
def chainB (l : List (List Int)) : Bool := (l.zip l.tail).all fun p => ltR p.1 p.2
theorem RT_len : RT.length = 240 := by decide +kernel
theorem RT_chain : chainB RT = true := by decide +kernel
theorem RT_eo : RT.Perm (EV ++ OD) := by
  have : List.isPerm RT (EV ++ OD) = true := by decide +kernel
  exact List.isPerm_iff.mp this
theorem RT_lr : RT.Perm LR := by
  have : List.isPerm RT LR = true := by decide +kernel
  exact List.isPerm_iff.mp this
theorem chain_pw : ∀ l : List (List Int), chainB l = true → l.Pairwise fun a b => ltR a b = true
  | [], _ => .nil
  | [x], _ => List.pairwise_singleton _ _
  | x :: y :: r, h => by
    have h' : (ltR x y && chainB (y :: r)) = true := h
    rw [Bool.and_eq_true] at h'
    have ih := chain_pw (y :: r) h'.2
    refine List.pairwise_cons.mpr ⟨fun z hz => ?_, ih⟩
    rcases List.mem_cons.mp hz with rfl | hz
    · exact h'.1
    · exact tot_row.tr _ _ _ h'.1 ((List.pairwise_cons.mp ih).1 z hz)
theorem RT_lt : RT.Pairwise fun a b => ltR a b = true := chain_pw _ RT_chain
theorem lt_le {α : Type} [DecidableEq α] {lt : α → α → Bool} (T : Tot lt) {l : List α} (h : l.Pairwise fun a b => lt a b = true) : l.Pairwise fun a b => leL lt a b = true :=
  h.imp fun {a b} q => by unfold leL; rw [T.asym q]; rfl
theorem lt_nodup {α : Type} [DecidableEq α] {lt : α → α → Bool} (T : Tot lt) {l : List α} (h : l.Pairwise fun a b => lt a b = true) : l.Nodup :=
  h.imp fun {a b} q e => by rw [e, T.irr] at q; cases q
theorem RT_nodup : RT.Nodup := lt_nodup tot_row RT_lt
theorem RT_eo_sort : (EV ++ OD).mergeSort (leL ltR) = RT := sort_is tot_row (lt_le tot_row RT_lt) RT_eo
theorem RT_lr_sort : LR.mergeSort (leL ltR) = RT := sort_is tot_row (lt_le tot_row RT_lt) RT_lr
theorem RT_row : ∀ r ∈ RT, r.length = 8 ∧ ∀ x ∈ r, -2 ≤ x ∧ x ≤ 2 := by decide +kernel
end Pf

set_option Elab.async false
set_option linter.all false
set_option maxRecDepth 100000
set_option maxHeartbeats 4000000
namespace Pf
open PySem PySem.Spec PyProof.Rows L2

/-! ## the algebra of rows -/
def Rw (r : List Int) : Prop := r.length = 8 ∧ ∀ x ∈ r, x.natAbs ≤ 1000000
def mulS (r s : List Int) : Int := (List.zipWith (fun a b => a * b) r s).sum
def dot (r s : List Int) : Int := (mulS r s).fdiv 4
def add (r s : List Int) : List Int := List.zipWith (fun a b => a + b) r s
def smul (a : Int) (r : List Int) : List Int := r.map fun x => a * x
def less (r s : List Int) (m : Int) : List Int := List.zipWith (fun a b => a - m * b) r s
/-- the row mirrored by the root g -/
def mir (g x : List Int) : List Int := less x g (dot g x)
theorem mulS_comm : ∀ r s : List Int, mulS r s = mulS s r
  | [], [] => rfl
  | [], _ :: _ => rfl
  | _ :: _, [] => rfl
  | a :: r, b :: s => by
    have ih := mulS_comm r s
    unfold mulS at ih ⊢
    rw [List.zipWith_cons_cons, List.zipWith_cons_cons, List.sum_cons, List.sum_cons, ih, Int.mul_comm]
theorem dot_comm (r s : List Int) : dot r s = dot s r := by unfold dot; rw [mulS_comm]
theorem mulS_cons (a b : Int) (r s : List Int) : mulS (a :: r) (b :: s) = a * b + mulS r s := by unfold mulS; rw [List.zipWith_cons_cons, List.sum_cons]
theorem mulS_add : ∀ {r s t : List Int}, r.length = s.length → mulS (add r s) t = mulS r t + mulS s t
  | [], [], t, _ => by cases t <;> rfl
  | a :: r, b :: s, [], _ => by simp [mulS]
  | a :: r, b :: s, c :: t, h => by
    have ih := mulS_add (t := t) (Nat.succ.inj h : r.length = s.length)
    show mulS ((a + b) :: add r s) (c :: t) = _
    rw [mulS_cons, mulS_cons, mulS_cons, ih, Int.add_mul]
    omega
theorem mulS_smul (m : Int) : ∀ (r t : List Int), mulS (smul m r) t = m * mulS r t
  | [], t => by cases t <;> simp [mulS, smul]
  | a :: r, [] => by simp [mulS, smul]
  | a :: r, c :: t => by
    show mulS ((m * a) :: smul m r) (c :: t) = _
    rw [mulS_cons, mulS_cons, mulS_smul m r t, Int.mul_add, Int.mul_assoc]
theorem mulS_less (m : Int) : ∀ {r s t : List Int}, r.length = s.length → mulS (less r s m) t = mulS r t - m * mulS s t
  | [], [], t, _ => by cases t <;> simp [mulS, less]
  | a :: r, b :: s, [], _ => by simp [mulS]
  | a :: r, b :: s, c :: t, h => by
    have ih := mulS_less m (t := t) (Nat.succ.inj h : r.length = s.length)
    show mulS ((a - m * b) :: less r s m) (c :: t) = _
    rw [mulS_cons, mulS_cons, mulS_cons, ih, Int.sub_mul, Int.mul_add, Int.mul_assoc]
    omega
theorem mulS_less' (m : Int) {r s t : List Int} (h : r.length = s.length) : mulS t (less r s m) = mulS t r - m * mulS t s := by
  rw [mulS_comm, mulS_less m h, mulS_comm r, mulS_comm s]
theorem less_len {r s : List Int} {m : Int} (h : r.length = s.length) : (less r s m).length = r.length := by unfold less; rw [List.length_zipWith]; omega
theorem add_len {r s : List Int} (h : r.length = s.length) : (add r s).length = r.length := by unfold add; rw [List.length_zipWith]; omega
theorem smul_len {r : List Int} {m : Int} : (smul m r).length = r.length := by unfold smul; rw [List.length_map]

/-! ## what a root is -/
/-- whole rows: alike by two, the sum a multiple of 4 -/
def Lat (x : List Int) : Prop := x.length = 8 ∧ (∀ a ∈ x, (a - x.headD 0) % 2 = 0) ∧ x.sum % 4 = 0
instance (x : List Int) : Decidable (Lat x) := by unfold Lat; infer_instance
def rootB (x : List Int) : Bool := x.all (fun a => (a - x.headD 0) % 2 == 0) && x.sum % 4 == 0 && mulS x x == 8
theorem odd_roots_in : ∀ a ∈ [(-1 : Int), 1], ∀ b ∈ [(-1 : Int), 1], ∀ c ∈ [(-1 : Int), 1], ∀ d ∈ [(-1 : Int), 1], ∀ e ∈ [(-1 : Int), 1], ∀ f ∈ [(-1 : Int), 1], ∀ g ∈ [(-1 : Int), 1], ∀ h ∈ [(-1 : Int), 1],
    rootB [a, b, c, d, e, f, g, h] = true → [a, b, c, d, e, f, g, h] ∈ RT := by decide +kernel
theorem even_roots_in : ∀ a ∈ [(-2 : Int), 0, 2], ∀ b ∈ [(-2 : Int), 0, 2], ∀ c ∈ [(-2 : Int), 0, 2], ∀ d ∈ [(-2 : Int), 0, 2], ∀ e ∈ [(-2 : Int), 0, 2], ∀ f ∈ [(-2 : Int), 0, 2], ∀ g ∈ [(-2 : Int), 0, 2], ∀ h ∈ [(-2 : Int), 0, 2],
    rootB [a, b, c, d, e, f, g, h] = true → [a, b, c, d, e, f, g, h] ∈ RT := by decide +kernel
theorem RT_rootB : RT.all (fun x => rootB x) = true := by decide +kernel
theorem sq_nn (a : Int) : 0 ≤ a * a := by
  rcases Int.le_total 0 a with h | h
  · exact Int.mul_nonneg h h
  · exact Int.mul_nonneg_of_nonpos_of_nonpos h h
theorem sq_le {a : Int} (h : a * a ≤ 8) : -2 ≤ a ∧ a ≤ 2 := by
  constructor
  · rcases (show a < -2 ∨ -2 ≤ a by omega) with q | q
    · have : 3 * 3 ≤ (-a) * (-a) := Int.mul_le_mul (by omega) (by omega) (by decide) (by omega)
      rw [Int.neg_mul_neg] at this
      omega
    · exact q
  · rcases (show 2 < a ∨ a ≤ 2 by omega) with q | q
    · have : 3 * 3 ≤ a * a := Int.mul_le_mul (by omega) (by omega) (by decide) (by omega)
      omega
    · exact q
theorem mem_odd {a : Int} (h1 : -2 ≤ a) (h2 : a ≤ 2) (h3 : a % 2 = 1) : a ∈ [(-1 : Int), 1] := by
  have : a = -1 ∨ a = 1 := by omega
  rcases this with rfl | rfl <;> decide
theorem mem_even {a : Int} (h1 : -2 ≤ a) (h2 : a ≤ 2) (h3 : a % 2 = 0) : a ∈ [(-2 : Int), 0, 2] := by
  have : a = -2 ∨ a = 0 ∨ a = 2 := by omega
  rcases this with rfl | rfl | rfl <;> decide
theorem RT_of {x : List Int} (hl : x.length = 8) (h : rootB x = true) : x ∈ RT := by
  match x, hl with
  | [a, b, c, d, e, f, g, i], _ =>
    have h0 := h
    unfold rootB at h
    rw [Bool.and_eq_true, Bool.and_eq_true] at h
    obtain ⟨⟨h1, _⟩, h3⟩ := h
    have h3' : mulS [a, b, c, d, e, f, g, i] [a, b, c, d, e, f, g, i] = 8 := by simpa using h3
    have e3 : a * a + (b * b + (c * c + (d * d + (e * e + (f * f + (g * g + (i * i + 0))))))) = 8 := h3'
    have p1 := sq_nn a
    have p2 := sq_nn b
    have p3 := sq_nn c
    have p4 := sq_nn d
    have p5 := sq_nn e
    have p6 := sq_nn f
    have p7 := sq_nn g
    have p8 := sq_nn i
    obtain ⟨a1, a2⟩ := sq_le (a := a) (by omega)
    obtain ⟨b1, b2⟩ := sq_le (a := b) (by omega)
    obtain ⟨c1, c2⟩ := sq_le (a := c) (by omega)
    obtain ⟨d1, d2⟩ := sq_le (a := d) (by omega)
    obtain ⟨e1, e2⟩ := sq_le (a := e) (by omega)
    obtain ⟨f1, f2⟩ := sq_le (a := f) (by omega)
    obtain ⟨g1, g2⟩ := sq_le (a := g) (by omega)
    obtain ⟨i1, i2⟩ := sq_le (a := i) (by omega)
    clear e3 h3' h3 p1 p2 p3 p4 p5 p6 p7 p8
    have q : (a - a) % 2 = 0 ∧ (b - a) % 2 = 0 ∧ (c - a) % 2 = 0 ∧ (d - a) % 2 = 0 ∧ (e - a) % 2 = 0 ∧ (f - a) % 2 = 0 ∧ (g - a) % 2 = 0 ∧ (i - a) % 2 = 0 := by
      simpa using h1
    obtain ⟨_, q2, q3, q4, q5, q6, q7, q8⟩ := q
    by_cases ho : a % 2 = 1
    · exact odd_roots_in a (mem_odd a1 a2 ho) b (mem_odd b1 b2 (by omega)) c (mem_odd c1 c2 (by omega)) d (mem_odd d1 d2 (by omega)) e (mem_odd e1 e2 (by omega)) f (mem_odd f1 f2 (by omega)) g (mem_odd g1 g2 (by omega)) i (mem_odd i1 i2 (by omega)) h0
    · exact even_roots_in a (mem_even a1 a2 (by omega)) b (mem_even b1 b2 (by omega)) c (mem_even c1 c2 (by omega)) d (mem_even d1 d2 (by omega)) e (mem_even e1 e2 (by omega)) f (mem_even f1 f2 (by omega)) g (mem_even g1 g2 (by omega)) i (mem_even i1 i2 (by omega)) h0
/-- a root: so and no otherwise -/
theorem RT_iff {x : List Int} : x ∈ RT ↔ x.length = 8 ∧ rootB x = true :=
  ⟨fun h => ⟨(RT_row x h).1, List.all_eq_true.mp RT_rootB x h⟩, fun h => RT_of h.1 h.2⟩
theorem RT_sq {x : List Int} (h : x ∈ RT) : mulS x x = 8 := by
  have := (RT_iff.mp h).2
  unfold rootB at this
  rw [Bool.and_eq_true] at this
  simpa using this.2
theorem RT_rw {r : List Int} (h : r ∈ RT) : Rw r := ⟨(RT_row r h).1, fun x hx => by have := (RT_row r h).2 x hx; omega⟩
theorem RT_l8 {r : List Int} (h : r ∈ RT) : r.length = 8 := (RT_row r h).1
/-! ## whole rows -/
theorem sq_mod (a : Int) : (a * a) % 8 = if a % 2 = 0 then (2 * a) % 8 else 1 := by
  have h : (a * a) % 8 = ((a % 8) * (a % 8)) % 8 := Int.mul_emod a a 8
  have h2 : (2 * a) % 8 = (2 * (a % 8)) % 8 := by omega
  have h3 : a % 2 = (a % 8) % 2 := by omega
  rw [h, h2, h3]
  have b1 := Int.emod_nonneg a (show (8 : Int) ≠ 0 by decide)
  have b2 := Int.emod_lt_of_pos a (show (0 : Int) < 8 by decide)
  generalize a % 8 = t at b1 b2
  have : t = 0 ∨ t = 1 ∨ t = 2 ∨ t = 3 ∨ t = 4 ∨ t = 5 ∨ t = 6 ∨ t = 7 := by omega
  rcases this with rfl | rfl | rfl | rfl | rfl | rfl | rfl | rfl <;> decide
theorem Lat.ev8 {a b c d e f g i : Int} (h : Lat [a, b, c, d, e, f, g, i]) : (b - a) % 2 = 0 ∧ (c - a) % 2 = 0 ∧ (d - a) % 2 = 0 ∧ (e - a) % 2 = 0 ∧ (f - a) % 2 = 0 ∧ (g - a) % 2 = 0 ∧ (i - a) % 2 = 0 ∧ (a + (b + (c + (d + (e + (f + (g + i))))))) % 4 = 0 := by
  obtain ⟨_, h1, h2⟩ := h
  have q : (a - a) % 2 = 0 ∧ (b - a) % 2 = 0 ∧ (c - a) % 2 = 0 ∧ (d - a) % 2 = 0 ∧ (e - a) % 2 = 0 ∧ (f - a) % 2 = 0 ∧ (g - a) % 2 = 0 ∧ (i - a) % 2 = 0 := by simpa using h1
  have h2' : (a + (b + (c + (d + (e + (f + (g + (i + 0)))))))) % 4 = 0 := h2
  obtain ⟨_, q2, q3, q4, q5, q6, q7, q8⟩ := q
  exact ⟨q2, q3, q4, q5, q6, q7, q8, by omega⟩
theorem Lat.of8 {a b c d e f g i : Int} (h : (b - a) % 2 = 0 ∧ (c - a) % 2 = 0 ∧ (d - a) % 2 = 0 ∧ (e - a) % 2 = 0 ∧ (f - a) % 2 = 0 ∧ (g - a) % 2 = 0 ∧ (i - a) % 2 = 0 ∧ (a + (b + (c + (d + (e + (f + (g + i))))))) % 4 = 0) : Lat [a, b, c, d, e, f, g, i] := by
  obtain ⟨q2, q3, q4, q5, q6, q7, q8, q9⟩ := h
  refine ⟨rfl, ?_, ?_⟩
  · have : (a - a) % 2 = 0 ∧ (b - a) % 2 = 0 ∧ (c - a) % 2 = 0 ∧ (d - a) % 2 = 0 ∧ (e - a) % 2 = 0 ∧ (f - a) % 2 = 0 ∧ (g - a) % 2 = 0 ∧ (i - a) % 2 = 0 := ⟨by omega, q2, q3, q4, q5, q6, q7, q8⟩
    simpa using this
  · show (a + (b + (c + (d + (e + (f + (g + (i + 0)))))))) % 4 = 0
    omega
theorem Lat.sq {x : List Int} (h : Lat x) : mulS x x % 8 = 0 := by
  match x, h.1, h with
  | [a, b, c, d, e, f, g, i], _, h =>
    obtain ⟨q2, q3, q4, q5, q6, q7, q8, q9⟩ := h.ev8
    show (a * a + (b * b + (c * c + (d * d + (e * e + (f * f + (g * g + (i * i + 0)))))))) % 8 = 0
    have m1 := sq_mod a
    have m2 := sq_mod b
    have m3 := sq_mod c
    have m4 := sq_mod d
    have m5 := sq_mod e
    have m6 := sq_mod f
    have m7 := sq_mod g
    have m8 := sq_mod i
    by_cases ho : a % 2 = 0
    · rw [if_pos (by omega)] at m1 m2 m3 m4 m5 m6 m7 m8
      omega
    · rw [if_neg (by omega)] at m1 m2 m3 m4 m5 m6 m7 m8
      omega
theorem Lat.add {x y : List Int} (hx : Lat x) (hy : Lat y) : Lat (add x y) := by
  match x, hx.1, hx, y, hy.1, hy with
  | [a, b, c, d, e, f, g, i], _, hx, [a', b', c', d', e', f', g', i'], _, hy =>
    obtain ⟨q2, q3, q4, q5, q6, q7, q8, q9⟩ := hx.ev8
    obtain ⟨r2, r3, r4, r5, r6, r7, r8, r9⟩ := hy.ev8
    show Lat [a + a', b + b', c + c', d + d', e + e', f + f', g + g', i + i']
    exact Lat.of8 ⟨by omega, by omega, by omega, by omega, by omega, by omega, by omega, by omega⟩
theorem mul_ev {m a : Int} (h : a % 2 = 0) : (m * a) % 2 = 0 := by rw [Int.mul_emod, h]; simp
theorem Lat.smul {x : List Int} (m : Int) (hx : Lat x) : Lat (smul m x) := by
  match x, hx.1, hx with
  | [a, b, c, d, e, f, g, i], _, hx =>
    obtain ⟨q2, q3, q4, q5, q6, q7, q8, q9⟩ := hx.ev8
    have s : ∀ u : Int, (u - a) % 2 = 0 → (m * u - m * a) % 2 = 0 := fun u hu => by rw [← Int.mul_sub]; exact mul_ev hu
    refine Lat.of8 ⟨s b q2, s c q3, s d q4, s e q5, s f q6, s g q7, s i q8, ?_⟩
    have : m * a + (m * b + (m * c + (m * d + (m * e + (m * f + (m * g + m * i)))))) = m * (a + (b + (c + (d + (e + (f + (g + i))))))) := by simp only [Int.mul_add]
    rw [this, Int.mul_emod, q9]; simp
theorem less_eq {x g : List Int} {m : Int} : ∀ {x g : List Int}, less x g m = Pf.add x (Pf.smul (-m) g)
  | [], [] => rfl
  | [], _ :: _ => rfl
  | _ :: _, [] => rfl
  | a :: x, b :: g => by
    show (a - m * b) :: less x g m = (a + (-m) * b) :: Pf.add x (Pf.smul (-m) g)
    rw [less_eq (x := x) (g := g), Int.neg_mul, Int.sub_eq_add_neg]
    all_goals assumption
theorem Lat.less {x y : List Int} (m : Int) (hx : Lat x) (hy : Lat y) : Lat (less x y m) := by
  rw [less_eq (x := x) (g := y)]
  exact hx.add (hy.smul _)
theorem Lat.mul {x y : List Int} (hx : Lat x) (hy : Lat y) : mulS x y % 4 = 0 := by
  have h := (hx.add hy).sq
  have hl : x.length = y.length := by rw [hx.1, hy.1]
  rw [mulS_add hl, mulS_comm x, mulS_comm y (Pf.add x y), mulS_add hl, mulS_add hl, mulS_comm y x] at h
  have h1 := hx.sq
  have h2 := hy.sq
  omega
theorem Lat.dot {x y : List Int} (hx : Lat x) (hy : Lat y) : mulS x y = 4 * dot x y := by
  have h := hx.mul hy
  unfold Pf.dot
  rw [Int.fdiv_eq_ediv_of_nonneg _ (by decide)]
  omega
theorem RT_lat {x : List Int} (h : x ∈ RT) : Lat x := by
  have hr := (RT_iff.mp h).2
  unfold rootB at hr
  rw [Bool.and_eq_true, Bool.and_eq_true, List.all_eq_true] at hr
  refine ⟨RT_l8 h, fun a ha => by simpa using hr.1.1 a ha, by simpa using hr.1.2⟩
theorem RT_mk {x : List Int} (h : Lat x) (h2 : mulS x x = 8) : x ∈ RT := by
  refine RT_of h.1 ?_
  unfold rootB
  rw [Bool.and_eq_true, Bool.and_eq_true, List.all_eq_true]
  exact ⟨⟨fun a ha => by simpa using h.2.1 a ha, by simpa using h.2.2⟩, by simpa using h2⟩
end Pf

set_option Elab.async false
set_option linter.all false
set_option maxRecDepth 100000
set_option maxHeartbeats 4000000
namespace Pf
open PySem PySem.Spec PyProof.Rows L2

/-! ## mirrors -/
theorem mir_lat {g x : List Int} (hg : g ∈ RT) (hx : Lat x) : Lat (mir g x) := hx.less _ (RT_lat hg)
theorem mulS_mir1 {g x y : List Int} (hg : g ∈ RT) (hx : Lat x) : mulS (mir g x) y = mulS x y - dot g x * mulS g y := mulS_less _ (by rw [hx.1, RT_l8 hg])
theorem mulS_mir {g x y : List Int} (hg : g ∈ RT) (hx : Lat x) (hy : Lat y) : mulS (mir g x) (mir g y) = mulS x y := by
  rw [mulS_mir1 hg hx, mulS_comm x, mulS_comm g (mir g y), mulS_mir1 hg hy, mulS_mir1 hg hy, RT_sq hg]
  have h1 := (RT_lat hg).dot hx
  have h2 := (RT_lat hg).dot hy
  rw [mulS_comm y x, mulS_comm y g, h1, h2]
  generalize dot g x = c
  generalize dot g y = d
  rw [show c * (4 * d - d * 8) = -(4 * (c * d)) by rw [Int.mul_sub, ← Int.mul_assoc, ← Int.mul_assoc, Int.mul_comm c 4, Int.mul_assoc 4 c d, Int.mul_comm (c * d) 8]; omega]
  rw [show d * (4 * c) = 4 * (c * d) by rw [← Int.mul_assoc, Int.mul_comm d 4, Int.mul_assoc, Int.mul_comm d c]]
  omega
theorem dot_of {x y : List Int} {k : Int} (hx : Lat x) (hy : Lat y) (h : mulS x y = 4 * k) : dot x y = k := by
  have := hx.dot hy
  omega
theorem dot_mir {g x y : List Int} (hg : g ∈ RT) (hx : Lat x) (hy : Lat y) : dot (mir g x) (mir g y) = dot x y := by
  unfold dot; rw [mulS_mir hg hx hy]
theorem mir_RT {g x : List Int} (hg : g ∈ RT) (hx : x ∈ RT) : mir g x ∈ RT :=
  RT_mk (mir_lat hg (RT_lat hx)) (by rw [mulS_mir hg (RT_lat hx) (RT_lat hx), RT_sq hx])
theorem less_less : ∀ {x g : List Int} {m : Int}, x.length = g.length → less (less x g m) g (-m) = x
  | [], [], _, _ => rfl
  | a :: x, b :: g, m, h => by
    show ((a - m * b) - (-m) * b) :: less (less x g m) g (-m) = a :: x
    rw [less_less (Nat.succ.inj h : x.length = g.length), Int.neg_mul]
    congr 1
    omega
theorem mir_mir {g x : List Int} (hg : g ∈ RT) (hx : Lat x) : mir g (mir g x) = x := by
  have hd : dot g (mir g x) = -dot g x := by
    refine dot_of (RT_lat hg) (mir_lat hg hx) ?_
    rw [mulS_comm, mulS_mir1 hg hx, mulS_comm x g, RT_sq hg, (RT_lat hg).dot hx]
    omega
  unfold mir at hd ⊢
  rw [hd]
  exact less_less (by rw [hx.1, RT_l8 hg])
theorem map_nodup {α β : Type} {f : α → β} {l : List α} (h : l.Nodup) (hf : ∀ a ∈ l, ∀ b ∈ l, f a = f b → a = b) : (l.map f).Nodup := by
  refine List.pairwise_map.mpr (List.Pairwise.imp_of_mem (fun {a b} ha hb hne e => hne (hf a ha b hb e)) h)
theorem mir_perm {g : List Int} (hg : g ∈ RT) : (RT.map (mir g)).Perm RT := by
  refine (List.perm_ext_iff_of_nodup (map_nodup RT_nodup fun a ha b hb e => ?_) RT_nodup).mpr fun x => ⟨fun h => ?_, fun h => ?_⟩
  · rw [← mir_mir hg (RT_lat ha), e, mir_mir hg (RT_lat hb)]
  · obtain ⟨y, hy, rfl⟩ := List.mem_map.mp h
    exact mir_RT hg hy
  · exact List.mem_map.mpr ⟨mir g x, mir_RT hg h, mir_mir hg (RT_lat h)⟩
/-- counts don't see mirrors -/
theorem count_mir {g : List Int} (hg : g ∈ RT) (P Q : List Int → Bool) (h : ∀ x ∈ RT, P (mir g x) = Q x) : RT.countP P = RT.countP Q := by
  rw [← (mir_perm hg).countP_eq P, List.countP_map]
  refine List.countP_congr fun x hx => ?_
  show P (mir g x) = true ↔ Q x = true
  rw [h x hx]
/-! ## from one to the others -/
theorem diff_root {r k : List Int} (hr : r ∈ RT) (hk : k ∈ RT) (h : mulS r k = 4) : less r k 1 ∈ RT ∧ mir (less r k 1) r = k := by
  have hl : r.length = k.length := by rw [RT_l8 hr, RT_l8 hk]
  have hL := (RT_lat hr).less 1 (RT_lat hk)
  have h1 : mulS (less r k 1) r = 4 := by rw [mulS_less 1 hl, RT_sq hr, mulS_comm k r, h]; rfl
  have hg : less r k 1 ∈ RT := RT_mk hL (by rw [mulS_less 1 hl, mulS_less' 1 hl, mulS_less' 1 hl, RT_sq hr, RT_sq hk, mulS_comm k r, h]; rfl)
  refine ⟨hg, ?_⟩
  unfold mir
  rw [dot_of hL (RT_lat hr) (k := 1) (by rw [h1]; rfl)]
  clear hL h1 hg h
  have : ∀ {r k : List Int}, r.length = k.length → less r (less r k 1) 1 = k := by
    intro r
    induction r with
    | nil => intro k h; cases k <;> first | rfl | cases h
    | cons a r ih =>
      intro k h
      cases k with
      | nil => cases h
      | cons b k =>
        show (a - 1 * (a - 1 * b)) :: less r (less r k 1) 1 = b :: k
        rw [ih (Nat.succ.inj h)]
        congr 1
        omega
  exact this hl
/-- what comes from s0 by steps of product 1 within F -/
def lev (F : List (List Int)) (s0 : List Int) : Nat → List (List Int)
  | 0 => [s0]
  | n + 1 => F.filter fun s => (lev F s0 n).any fun k => mulS s k == 4
theorem lev_ind {F : List (List Int)} {s0 : List Int} {Q : List Int → Prop} (hs : s0 ∈ F) (h0 : Q s0) (hstep : ∀ s ∈ F, ∀ k ∈ F, mulS s k = 4 → Q k → Q s) : ∀ n, ∀ s ∈ lev F s0 n, s ∈ F ∧ Q s
  | 0, s, h => by rw [List.mem_singleton.mp h]; exact ⟨hs, h0⟩
  | n + 1, s, h => by
    obtain ⟨h1, h2⟩ := List.mem_filter.mp h
    obtain ⟨k, hk, e⟩ := List.any_eq_true.mp h2
    obtain ⟨k1, k2⟩ := lev_ind hs h0 hstep n k hk
    exact ⟨h1, hstep s h1 k k1 (by simpa using e) k2⟩
def r0 : List Int := [2, 2, 0, 0, 0, 0, 0, 0]
def s0 : List Int := [-2, 0, 2, 0, 0, 0, 0, 0]
def F0 : List (List Int) := RT.filter fun s => mulS r0 s == -4
theorem r0_in : r0 ∈ RT := by decide +kernel
theorem s0_in : s0 ∈ F0 := by decide +kernel
theorem RT_lev : RT.all (fun r => (lev RT r0 2).contains r || (lev RT r0 1).contains r || (lev RT r0 3).contains r || r == r0) = true := by decide +kernel
theorem F0_lev : F0.all (fun r => (lev F0 s0 2).contains r || (lev F0 s0 1).contains r || (lev F0 s0 3).contains r || r == s0) = true := by decide +kernel
theorem lev_all {F : List (List Int)} {s0 : List Int} (hc : F.all (fun r => (lev F s0 2).contains r || (lev F s0 1).contains r || (lev F s0 3).contains r || r == s0) = true) {Q : List Int → Prop} (hs : s0 ∈ F) (h0 : Q s0) (hstep : ∀ s ∈ F, ∀ k ∈ F, mulS s k = 4 → Q k → Q s) : ∀ r ∈ F, Q r := by
  intro r hr
  have h := List.all_eq_true.mp hc r hr
  simp only [Bool.or_eq_true, List.contains_iff_mem, beq_iff_eq] at h
  rcases h with ((h | h) | h) | h
  · exact (lev_ind hs h0 hstep 2 r h).2
  · exact (lev_ind hs h0 hstep 1 r h).2
  · exact (lev_ind hs h0 hstep 3 r h).2
  · rw [h]; exact h0
/-- what mirrors keep, from one root to all -/
theorem root_ind {Q : List Int → Prop} (h0 : Q r0) (hQ : ∀ g ∈ RT, ∀ r ∈ RT, Q (mir g r) → Q r) : ∀ r ∈ RT, Q r :=
  lev_all RT_lev r0_in h0 fun s hs k hk h q => by
    obtain ⟨g1, g2⟩ := diff_root hs hk h
    exact hQ _ g1 s hs (by rw [g2]; exact q)
theorem F0_mem {s : List Int} : s ∈ F0 ↔ s ∈ RT ∧ mulS r0 s = -4 := by
  unfold F0
  rw [List.mem_filter]
  simp
/-- what mirrors keep, from one pair of product -1 to all -/
theorem pair_ind {Q : List Int → List Int → Prop} (h0 : Q r0 s0) (hQ : ∀ g ∈ RT, ∀ r ∈ RT, ∀ s ∈ RT, Q (mir g r) (mir g s) → Q r s) : ∀ r ∈ RT, ∀ s ∈ RT, mulS r s = -4 → Q r s := by
  have base : ∀ s ∈ F0, Q r0 s := lev_all F0_lev s0_in h0 fun s hs k hk h q => by
    obtain ⟨s1, s2⟩ := F0_mem.mp hs
    obtain ⟨k1, k2⟩ := F0_mem.mp hk
    obtain ⟨g1, g2⟩ := diff_root s1 k1 h
    refine hQ _ g1 r0 r0_in s s1 ?_
    have e : mir (less s k 1) r0 = r0 := by
      have hd : dot (less s k 1) r0 = 0 := dot_of (RT_lat g1) (RT_lat r0_in) (by rw [mulS_less 1 (by rw [RT_l8 s1, RT_l8 k1]), mulS_comm s, mulS_comm k, s2, k2]; rfl)
      unfold mir
      rw [hd]
      have : ∀ {x g : List Int}, x.length = g.length → less x g 0 = x := by
        intro x
        induction x with
        | nil => intro g _; cases g <;> rfl
        | cons a x ih =>
          intro g h
          cases g with
          | nil => cases h
          | cons b g =>
            show (a - 0 * b) :: less x g 0 = _
            rw [ih (Nat.succ.inj h), Int.zero_mul, Int.sub_zero]
      exact this (by rw [RT_l8 r0_in, RT_l8 g1])
    rw [e, g2]
    exact q
  refine root_ind (Q := fun r => ∀ s ∈ RT, mulS r s = -4 → Q r s) (fun s hs h => base s (F0_mem.mpr ⟨hs, h⟩)) fun g hg r hr q s hs h => ?_
  exact hQ g hg r hr s hs (q (mir g s) (mir_RT hg hs) (by rw [mulS_mir hg (RT_lat hr) (RT_lat hs), h]))
/-- 56 have the product -1 with a root -/
theorem count56 : ∀ r ∈ RT, RT.countP (fun s => mulS s r == -4) = 56 :=
  root_ind (by decide +kernel) fun g hg r hr q => by
    rw [← q]
    exact (count_mir hg _ _ fun x hx => by rw [mulS_mir hg (RT_lat hx) (RT_lat hr)]).symm
def S0 : List (List Int) := RT.filter fun x => mulS x r0 == 0 && mulS x s0 == 0
theorem S0_72 : S0.length = 72 := by decide +kernel
theorem S0_20 : S0.all (fun x => S0.countP (fun y => mulS y x == -4) == 20) = true := by decide +kernel
/-- 72 have the product 0 with both of a pair, each of these -1 with 20 others -/
theorem count72 : ∀ r ∈ RT, ∀ s ∈ RT, mulS r s = -4 → RT.countP (fun x => mulS x r == 0 && mulS x s == 0) = 72 ∧ ∀ x ∈ RT, mulS x r = 0 → mulS x s = 0 → RT.countP (fun y => mulS y x == -4 && (mulS y r == 0 && mulS y s == 0)) = 20 := by
  refine pair_ind ⟨?_, fun x hx h1 h2 => ?_⟩ fun g hg r hr s hs q => ⟨?_, fun x hx h1 h2 => ?_⟩
  · rw [List.countP_eq_length_filter]; exact S0_72
  · have hx0 : x ∈ S0 := List.mem_filter.mpr ⟨hx, by simp [h1, h2]⟩
    have := List.all_eq_true.mp S0_20 x hx0
    have e := beq_iff_eq.mp this
    unfold S0 at e
    rw [List.countP_filter] at e
    exact e
  · rw [← q.1]
    exact (count_mir hg _ _ fun x hx => by rw [mulS_mir hg (RT_lat hx) (RT_lat hr), mulS_mir hg (RT_lat hx) (RT_lat hs)]).symm
  · have := q.2 (mir g x) (mir_RT hg hx) (by rw [mulS_mir hg (RT_lat hx) (RT_lat hr), h1]) (by rw [mulS_mir hg (RT_lat hx) (RT_lat hs), h2])
    rw [← this]
    exact (count_mir hg _ _ fun y hy => by rw [mulS_mir hg (RT_lat hy) (RT_lat hr), mulS_mir hg (RT_lat hy) (RT_lat hs), mulS_mir hg (RT_lat hy) (RT_lat hx)]).symm
end Pf

set_option Elab.async false
set_option linter.all false
set_option maxRecDepth 100000
set_option maxHeartbeats 4000000
namespace Pf
open PySem PySem.Spec PyProof.Rows L2

/-! ## sorted, each once -/
def ostep {α : Type} [DecidableEq α] (acc : List α) (x : α) : List α := if acc.getLast? = some x then acc else acc ++ [x]
def once {α : Type} [DecidableEq α] (lt : α → α → Bool) (l : List α) : List α := (l.mergeSort (leL lt)).foldl ostep []
section
variable {α : Type} [DecidableEq α] {lt : α → α → Bool}
theorem ostep_len (acc : List α) (x : α) : (ostep acc x).length ≤ acc.length + 1 := by
  unfold ostep
  split
  · omega
  · simp
theorem ofold_len : ∀ (l acc : List α), (l.foldl ostep acc).length ≤ acc.length + l.length
  | [], acc => by simp
  | x :: l, acc => by
    rw [List.foldl_cons]
    have h1 := ofold_len l (ostep acc x)
    have h2 := ostep_len acc x
    rw [List.length_cons]
    omega
theorem ostep_mem {acc : List α} {x y : α} : y ∈ ostep acc x ↔ y ∈ acc ∨ y = x := by
  unfold ostep
  split
  · rename_i h
    have hx : x ∈ acc := List.mem_of_getLast? h
    constructor
    · exact .inl
    · rintro (h | rfl)
      · exact h
      · exact hx
  · simp
theorem ofold_mem : ∀ (l acc : List α) (y : α), y ∈ l.foldl ostep acc ↔ y ∈ acc ∨ y ∈ l
  | [], acc, y => by simp
  | x :: l, acc, y => by
    rw [List.foldl_cons, ofold_mem l _ y, ostep_mem, List.mem_cons, or_assoc]
theorem ofold_pw (T : Tot lt) : ∀ (l acc : List α), acc.Pairwise (fun a b => lt a b = true) → (∀ a ∈ acc, ∀ b ∈ l, leL lt a b = true) → l.Pairwise (fun a b => leL lt a b = true) → (∀ a ∈ acc, acc.getLast? = some a ∨ ∀ b ∈ l, lt a b = true) → (l.foldl ostep acc).Pairwise fun a b => lt a b = true
  | [], acc, h, _, _, _ => h
  | x :: l, acc, h, h1, h2, h3 => by
    rw [List.foldl_cons]
    obtain ⟨p1, p2⟩ := List.pairwise_cons.mp h2
    unfold ostep
    by_cases e : acc.getLast? = some x
    · rw [if_pos e]
      refine ofold_pw T l acc h (fun a ha b hb => h1 a ha b (List.mem_cons_of_mem _ hb)) p2 fun a ha => ?_
      rcases h3 a ha with q | q
      · exact .inl q
      · exact .inr fun b hb => q b (List.mem_cons_of_mem _ hb)
    · rw [if_neg e]
      have lx : ∀ a ∈ acc, lt a x = true := fun a ha => by
        rcases h3 a ha with q | q
        · have hle := h1 a ha x List.mem_cons_self
          cases hh : lt a x with
          | true => rfl
          | false =>
            unfold leL at hle
            have := T.tri a x hh (by simpa using hle)
            rw [this] at q
            exact absurd q e
        · exact q x List.mem_cons_self
      refine ofold_pw T l (acc ++ [x]) (List.pairwise_append.mpr ⟨h, List.pairwise_singleton _ _, fun a ha b hb => by rw [List.mem_singleton.mp hb]; exact lx a ha⟩) (fun a ha b hb => ?_) p2 fun a ha => ?_
      · rcases List.mem_append.mp ha with ha | ha
        · exact h1 a ha b (List.mem_cons_of_mem _ hb)
        · rw [List.mem_singleton.mp ha]; exact p1 b hb
      · rcases List.mem_append.mp ha with ha | ha
        · refine .inr fun b hb => ?_
          have hxb := p1 b hb
          cases hh : lt a b with
          | true => rfl
          | false =>
            unfold leL at hxb
            rw [Bool.not_eq_true'] at hxb
            cases hh2 : lt b a with
            | true => have := T.tr b a x hh2 (lx a ha); rw [hxb] at this; cases this
            | false =>
              have := T.tri a b hh hh2
              subst this
              have := lx a ha
              rw [hxb] at this; cases this
        · rw [List.mem_singleton.mp ha]
          exact .inl (by simp)
theorem once_pw (T : Tot lt) (l : List α) : (once lt l).Pairwise fun a b => lt a b = true :=
  ofold_pw T _ [] .nil (fun a ha => by cases ha) (sort_pw T l) fun a ha => by cases ha
theorem once_mem (l : List α) (y : α) : y ∈ once lt l ↔ y ∈ l := by
  unfold once
  rw [ofold_mem]
  simp [(List.mergeSort_perm l _).mem_iff]
theorem once_len (l : List α) : (once lt l).length ≤ l.length := by
  have := ofold_len (l.mergeSort (leL lt)) []
  unfold once
  rw [(List.mergeSort_perm l _).length_eq] at this
  simpa using this
/-- strictly ascending lists of the same items are one -/
theorem asc_uniq (T : Tot lt) {l m : List α} (h1 : l.Pairwise fun a b => lt a b = true) (h2 : m.Pairwise fun a b => lt a b = true) (h : ∀ x, x ∈ l ↔ x ∈ m) : l = m :=
  sorted_uniq T (lt_le T h1) (lt_le T h2) ((List.perm_ext_iff_of_nodup (lt_nodup T h1) (lt_nodup T h2)).mpr h)
theorem once_asc (T : Tot lt) {l : List α} (h : l.Pairwise fun a b => lt a b = true) : once lt l = l :=
  asc_uniq T (once_pw T l) h fun x => once_mem l x
theorem once_congr (T : Tot lt) {l m : List α} (h : ∀ x, x ∈ l ↔ x ∈ m) : once lt l = once lt m :=
  asc_uniq T (once_pw T l) (once_pw T m) fun x => by rw [once_mem, once_mem, h]
/-- a function that has the same value at two items each -/
theorem once_half {β : Type} [DecidableEq β] {ltb : β → β → Bool} (T : Tot lt) (Tb : Tot ltb) {l : List α} {τ : α → α} {h : α → β} (hn : l.Nodup) (h1 : ∀ s ∈ l, τ s ∈ l) (h2 : ∀ s ∈ l, τ (τ s) = s) (h3 : ∀ s ∈ l, τ s ≠ s)
    (h4 : ∀ s ∈ l, ∀ t ∈ l, h s = h t ↔ t = s ∨ t = τ s) : 2 * (once ltb (l.map h)).length = l.length := by
  have hτ : (l.map τ).Perm l := by
    refine (List.perm_ext_iff_of_nodup (map_nodup hn fun a ha b hb e => by rw [← h2 a ha, e, h2 b hb]) hn).mpr fun x => ⟨fun hx => ?_, fun hx => ?_⟩
    · obtain ⟨y, hy, rfl⟩ := List.mem_map.mp hx
      exact h1 y hy
    · exact List.mem_map.mpr ⟨τ x, h1 x hx, h2 x hx⟩
  have e1 : (once ltb (l.map h)).length = (l.filter fun s => lt s (τ s)).length := by
    have nd : ((l.filter fun s => lt s (τ s)).map h).Nodup := by
      refine map_nodup (hn.sublist List.filter_sublist) fun a ha b hb e => ?_
      obtain ⟨ha1, ha2⟩ := List.mem_filter.mp ha
      obtain ⟨hb1, hb2⟩ := List.mem_filter.mp hb
      rcases (h4 a ha1 b hb1).mp e with q | q
      · exact q.symm
      · rw [q, h2 a ha1] at hb2
        have := T.asym ha2
        rw [hb2] at this
        cases this
    have pm : (once ltb (l.map h)).Perm ((l.filter fun s => lt s (τ s)).map h) := by
      refine (List.perm_ext_iff_of_nodup (lt_nodup Tb (once_pw Tb _)) nd).mpr fun y => ?_
      rw [once_mem]
      constructor
      · intro hy
        obtain ⟨s, hs, rfl⟩ := List.mem_map.mp hy
        by_cases q : lt s (τ s) = true
        · exact List.mem_map.mpr ⟨s, List.mem_filter.mpr ⟨hs, q⟩, rfl⟩
        · have q2 : lt (τ s) s = true := by
            cases hh : lt (τ s) s with
            | true => rfl
            | false => exact absurd (T.tri _ _ hh (by simpa using q)) (h3 s hs)
          exact List.mem_map.mpr ⟨τ s, List.mem_filter.mpr ⟨h1 s hs, by rw [h2 s hs]; exact q2⟩, ((h4 s hs (τ s) (h1 s hs)).mpr (.inr rfl)).symm⟩
      · intro hy
        obtain ⟨s, hs, rfl⟩ := List.mem_map.mp hy
        exact List.mem_map.mpr ⟨s, (List.mem_filter.mp hs).1, rfl⟩
    rw [pm.length_eq, List.length_map]
  have e2 : l.countP (fun s => lt s (τ s)) = l.countP (fun s => lt (τ s) s) := by
    rw [← hτ.countP_eq (fun s => lt s (τ s)), List.countP_map]
    refine List.countP_congr fun x hx => ?_
    show lt (τ x) (τ (τ x)) = true ↔ _
    rw [h2 x hx]
  have e3 : l.countP (fun s => lt (τ s) s) = l.countP (fun s => !lt s (τ s)) := by
    refine List.countP_congr fun x hx => ?_
    cases q : lt x (τ x) with
    | true => rw [T.asym q]; rfl
    | false =>
      cases hh : lt (τ x) x with
      | true => exact ⟨fun _ => rfl, fun _ => rfl⟩
      | false => exact absurd (T.tri _ _ hh q) (h3 x hx)
  rw [e1, ← List.countP_eq_length_filter]
  have e4 := List.length_eq_countP_add_countP (fun s => lt s (τ s)) (l := l)
  have e5 : l.countP (fun s => !lt s (τ s)) = l.countP (fun a => decide ¬lt a (τ a) = true) := List.countP_congr fun x _ => by simp
  omega
end
/-- counting pairs from both sides -/
theorem count_both {α β : Type} (R : α → β → Bool) : ∀ (l : List α) (m : List β), (l.map fun a => m.countP (R a)).sum = (m.map fun b => l.countP fun a => R a b).sum
  | [], m => by
    have : (m.map fun b => ([] : List α).countP fun a => R a b) = m.map fun _ => 0 := List.map_congr_left fun _ _ => rfl
    rw [this]
    induction m with
    | nil => rfl
    | cons b m ih => simpa using ih rfl
  | a :: l, m => by
    rw [List.map_cons, List.sum_cons, count_both R l m]
    have : ∀ m : List β, m.countP (R a) + (m.map fun b => l.countP fun a => R a b).sum = (m.map fun b => (a :: l).countP fun a => R a b).sum := by
      intro m
      induction m with
      | nil => rfl
      | cons b m ih =>
        rw [List.map_cons, List.map_cons, List.sum_cons, List.sum_cons, ← ih, List.countP_cons, List.countP_cons]
        omega
    exact this m
theorem sum_const {α : Type} {f : α → Nat} {n : Nat} : ∀ {l : List α}, (∀ a ∈ l, f a = n) → (l.map f).sum = l.length * n
  | [], _ => by simp
  | a :: l, h => by
    rw [List.map_cons, List.sum_cons, h a List.mem_cons_self, sum_const fun b hb => h b (List.mem_cons_of_mem _ hb), List.length_cons, Nat.succ_mul]
    omega
end Pf

set_option Elab.async false
set_option linter.all false
set_option maxRecDepth 100000
set_option maxHeartbeats 4000000
namespace Pf
open PySem PySem.Spec PyProof.Rows L2

/-! ## roots of product 0 -/
theorem less_zero : ∀ {x g : List Int}, x.length = g.length → less x g 0 = x
  | [], [], _ => rfl
  | a :: x, b :: g, h => by
    show (a - 0 * b) :: less x g 0 = a :: x
    rw [less_zero (Nat.succ.inj h : x.length = g.length), Int.zero_mul, Int.sub_zero]
theorem mir_fix {g x : List Int} (hg : g ∈ RT) (hx : Lat x) (h : mulS g x = 0) : mir g x = x := by
  unfold mir
  rw [dot_of (RT_lat hg) hx (k := 0) (by rw [h]; rfl)]
  exact less_zero (by rw [hx.1, RT_l8 hg])
/-- the roots of product 0 with those of A -/
def osq (A : List (List Int)) : List (List Int) := RT.filter fun x => A.all fun a => mulS a x == 0
theorem osq_mem {A : List (List Int)} {x : List Int} : x ∈ osq A ↔ x ∈ RT ∧ ∀ a ∈ A, mulS a x = 0 := by
  unfold osq
  rw [List.mem_filter, List.all_eq_true]
  simp
theorem osq_ind {A : List (List Int)} {s0 : List Int} (hA : ∀ a ∈ A, Lat a) (hc : (osq A).all (fun r => (lev (osq A) s0 2).contains r || (lev (osq A) s0 1).contains r || (lev (osq A) s0 3).contains r || r == s0) = true) (hs : s0 ∈ osq A)
    {Q : List Int → Prop} (h0 : Q s0) (hQ : ∀ g ∈ RT, (∀ a ∈ A, mir g a = a) → ∀ x ∈ RT, Q (mir g x) → Q x) : ∀ x ∈ osq A, Q x :=
  lev_all hc hs h0 fun s hs k hk h q => by
    obtain ⟨s1, s2⟩ := osq_mem.mp hs
    obtain ⟨k1, k2⟩ := osq_mem.mp hk
    obtain ⟨g1, g2⟩ := diff_root s1 k1 h
    refine hQ _ g1 (fun a ha => mir_fix g1 (hA a ha) ?_) s s1 (by rw [g2]; exact q)
    rw [mulS_less 1 (by rw [RT_l8 s1, RT_l8 k1]), mulS_comm s, mulS_comm k, s2 a ha, k2 a ha]
    rfl
def b0 : List Int := [2, -2, 0, 0, 0, 0, 0, 0]
def c0 : List Int := [0, 0, 2, 2, 0, 0, 0, 0]
theorem b0_in : b0 ∈ osq [r0] := by decide +kernel
theorem c0_in : c0 ∈ osq [r0, b0] := by decide +kernel
theorem osq1_lev : (osq [r0]).all (fun r => (lev (osq [r0]) b0 2).contains r || (lev (osq [r0]) b0 1).contains r || (lev (osq [r0]) b0 3).contains r || r == b0) = true := by decide +kernel
theorem osq2_lev : (osq [r0, b0]).all (fun r => (lev (osq [r0, b0]) c0 2).contains r || (lev (osq [r0, b0]) c0 1).contains r || (lev (osq [r0, b0]) c0 3).contains r || r == c0) = true := by decide +kernel
theorem mulS_mirR {g x y : List Int} (hg : g ∈ RT) (hx : x ∈ RT) (hy : y ∈ RT) : mulS (mir g x) (mir g y) = mulS x y := mulS_mir hg (RT_lat hx) (RT_lat hy)
theorem opair_ind {Q : List Int → List Int → Prop} (h0 : Q r0 b0) (hQ : ∀ g ∈ RT, ∀ a ∈ RT, ∀ b ∈ RT, Q (mir g a) (mir g b) → Q a b) : ∀ a ∈ RT, ∀ b ∈ RT, mulS a b = 0 → Q a b := by
  have s2 : ∀ b ∈ osq [r0], Q r0 b := osq_ind (by simpa using RT_lat r0_in) osq1_lev b0_in h0 fun g hg hf x hx q => hQ g hg r0 r0_in x hx (by rw [hf r0 (by simp)]; exact q)
  refine root_ind (Q := fun a => ∀ b ∈ RT, mulS a b = 0 → Q a b) (fun b hb h => s2 b (osq_mem.mpr ⟨hb, by simpa using h⟩)) fun g hg a ha q b hb h => ?_
  exact hQ g hg a ha b hb (q _ (mir_RT hg hb) (by rw [mulS_mirR hg ha hb, h]))
/-- what mirrors keep, from one triple of product 0 to all -/
theorem otri_ind {Q : List Int → List Int → List Int → Prop} (h0 : Q r0 b0 c0) (hQ : ∀ g ∈ RT, ∀ a ∈ RT, ∀ b ∈ RT, ∀ c ∈ RT, Q (mir g a) (mir g b) (mir g c) → Q a b c) :
    ∀ a ∈ RT, ∀ b ∈ RT, ∀ c ∈ RT, mulS a b = 0 → mulS a c = 0 → mulS b c = 0 → Q a b c := by
  have hb0 := (osq_mem.mp b0_in).1
  have s3 : ∀ c ∈ osq [r0, b0], Q r0 b0 c := osq_ind (by
    intro a ha
    rcases List.mem_cons.mp ha with rfl | ha
    · exact RT_lat r0_in
    · rw [List.mem_singleton.mp ha]; exact RT_lat hb0) osq2_lev c0_in h0 fun g hg hf x hx q => hQ g hg r0 r0_in b0 hb0 x hx (by rw [hf r0 (by simp), hf b0 (by simp)]; exact q)
  intro a ha b hb c hc h1 h2 h3
  refine opair_ind (Q := fun a b => ∀ c ∈ RT, mulS a c = 0 → mulS b c = 0 → Q a b c) (fun c hc h2 h3 => s3 c (osq_mem.mpr ⟨hc, ?_⟩)) (fun g hg a ha b hb q c hc h2 h3 => ?_) a ha b hb h1 c hc h2 h3
  · intro a ha
    rcases List.mem_cons.mp ha with rfl | ha
    · exact h2
    · rw [List.mem_singleton.mp ha]; exact h3
  · exact hQ g hg a ha b hb c hc (q _ (mir_RT hg hc) (by rw [mulS_mirR hg ha hc, h2]) (by rw [mulS_mirR hg hb hc, h3]))
theorem osq_mir {g : List Int} (hg : g ∈ RT) {A : List (List Int)} (hA : ∀ a ∈ A, Lat a) : (osq (A.map (mir g))).length = (osq A).length := by
  unfold osq
  rw [← List.countP_eq_length_filter, ← List.countP_eq_length_filter]
  refine count_mir hg _ _ fun x hx => ?_
  rw [List.all_map]
  rw [Bool.eq_iff_iff, List.all_eq_true, List.all_eq_true]
  have e : ∀ a ∈ A, mulS (mir g a) (mir g x) = mulS a x := fun a ha => mulS_mir hg (hA a ha) (RT_lat hx)
  exact ⟨fun h a ha => by rw [← e a ha]; exact h a ha, fun h a ha => by show (mulS (mir g a) (mir g x) == 0) = true; rw [e a ha]; exact h a ha⟩
theorem o126 : ∀ a ∈ RT, (osq [a]).length = 126 :=
  root_ind (by decide +kernel) fun g hg a ha q => by
    rw [← q]
    exact (osq_mir hg (A := [a]) (by simpa using RT_lat ha)).symm
theorem lat2 {a b : List Int} (ha : a ∈ RT) (hb : b ∈ RT) : ∀ x ∈ [a, b], Lat x := by
  intro x hx
  rcases List.mem_cons.mp hx with rfl | hx
  · exact RT_lat ha
  · rw [List.mem_singleton.mp hx]; exact RT_lat hb
theorem lat3 {a b c : List Int} (ha : a ∈ RT) (hb : b ∈ RT) (hc : c ∈ RT) : ∀ x ∈ [a, b, c], Lat x := by
  intro x hx
  rcases List.mem_cons.mp hx with rfl | hx
  · exact RT_lat ha
  · exact lat2 hb hc x hx
theorem lat4 {a b c d : List Int} (ha : a ∈ RT) (hb : b ∈ RT) (hc : c ∈ RT) (hd : d ∈ RT) : ∀ x ∈ [a, b, c, d], Lat x := by
  intro x hx
  rcases List.mem_cons.mp hx with rfl | hx
  · exact RT_lat ha
  · exact lat3 hb hc hd x hx
theorem o60 : ∀ a ∈ RT, ∀ b ∈ RT, mulS a b = 0 → (osq [a, b]).length = 60 :=
  opair_ind (by decide +kernel) fun g hg a ha b hb q => by
    rw [← q]
    exact (osq_mir hg (A := [a, b]) (lat2 ha hb)).symm
def O3 : List (List Int) := osq [r0, b0, c0]
theorem O3_26 : O3.length = 26 := by decide +kernel
theorem O3_8 : O3.countP (fun x => O3.countP (fun y => mulS x y == 0) == 8) = 24 := by decide +kernel
theorem O3_24 : O3.countP (fun x => O3.countP (fun y => mulS x y == 0) == 24) = 2 := by decide +kernel
theorem osq4 {a b c x : List Int} : (osq [a, b, c, x]).length = (osq [a, b, c]).countP fun y => mulS x y == 0 := by
  unfold osq
  rw [List.countP_filter, ← List.countP_eq_length_filter]
  refine List.countP_congr fun y _ => ?_
  simp only [List.all_cons, List.all_nil, Bool.and_true, Bool.and_eq_true]
  constructor
  · rintro ⟨h1, h2, h3, h4⟩; exact ⟨h4, h1, h2, h3⟩
  · rintro ⟨h4, h1, h2, h3⟩; exact ⟨h1, h2, h3, h4⟩
theorem o26 : ∀ a ∈ RT, ∀ b ∈ RT, ∀ c ∈ RT, mulS a b = 0 → mulS a c = 0 → mulS b c = 0 → (osq [a, b, c]).length = 26 ∧ (∀ n, n = 8 ∨ n = 24 → (osq [a, b, c]).countP (fun x => (osq [a, b, c, x]).length == n) = if n = 8 then 24 else 2) := by
  refine otri_ind ⟨O3_26, fun n hn => ?_⟩ fun g hg a ha b hb c hc q => ⟨?_, fun n hn => ?_⟩
  · have e : ∀ m, (osq [r0, b0, c0]).countP (fun x => (osq [r0, b0, c0, x]).length == m) = O3.countP (fun x => O3.countP (fun y => mulS x y == 0) == m) := fun m => List.countP_congr fun x _ => by rw [osq4]; rfl
    rcases hn with rfl | rfl
    · rw [e, O3_8]; rfl
    · rw [e, O3_24]; rfl
  · rw [← q.1]
    exact (osq_mir hg (A := [a, b, c]) (lat3 ha hb hc)).symm
  · rw [← q.2 n hn]
    unfold osq
    rw [List.countP_filter, List.countP_filter]
    refine (count_mir hg _ _ fun x hx => ?_).symm
    have h1 : (List.filter (fun y => [mir g a, mir g b, mir g c, mir g x].all fun z => mulS z y == 0) RT).length = (List.filter (fun y => [a, b, c, x].all fun z => mulS z y == 0) RT).length := osq_mir hg (A := [a, b, c, x]) (lat4 ha hb hc hx)
    rw [h1]
    simp only [List.all_cons, List.all_nil, Bool.and_true]
    rw [mulS_mirR hg ha hx, mulS_mirR hg hb hx, mulS_mirR hg hc hx]
end Pf

set_option Elab.async false
set_option linter.all false
set_option maxRecDepth 100000
set_option maxHeartbeats 4000000
namespace Pf
open PySem PySem.Spec PyProof.Rows L2

/-! ## frames -/
def neg (x : List Int) : List Int := smul (-1) x
theorem neg_lat {x : List Int} (h : Lat x) : Lat (neg x) := h.smul _
theorem mulS_neg (x y : List Int) : mulS (neg x) y = -mulS x y := by unfold neg; rw [mulS_smul]; omega
theorem mulS_neg' (x y : List Int) : mulS x (neg y) = -mulS x y := by rw [mulS_comm, mulS_neg, mulS_comm]
theorem neg_neg : ∀ x : List Int, neg (neg x) = x
  | [] => rfl
  | a :: x => by
    show (-1 * (-1 * a)) :: neg (neg x) = a :: x
    rw [neg_neg x]
    congr 1
    omega
theorem neg_RT {x : List Int} (h : x ∈ RT) : neg x ∈ RT := RT_mk (neg_lat (RT_lat h)) (by rw [mulS_neg, mulS_neg', RT_sq h]; rfl)
theorem less_smul : ∀ {x g : List Int} (m k : Int), less (smul m x) g (m * k) = smul m (less x g k)
  | [], [], _, _ => rfl
  | [], _ :: _, _, _ => rfl
  | _ :: _, [], _, _ => rfl
  | a :: x, b :: g, m, k => by
    show (m * a - m * k * b) :: less (smul m x) g (m * k) = (m * (a - k * b)) :: smul m (less x g k)
    rw [less_smul m k, Int.mul_sub, Int.mul_assoc]
theorem mir_smul {g x : List Int} (m : Int) (hg : g ∈ RT) (hx : Lat x) : mir g (smul m x) = smul m (mir g x) := by
  unfold mir
  have : dot g (smul m x) = m * dot g x := dot_of (RT_lat hg) (hx.smul m) (by rw [mulS_comm, mulS_smul, mulS_comm, (RT_lat hg).dot hx, Int.mul_left_comm])
  rw [this, less_smul]
theorem less_add : ∀ {x y g : List Int} (j k : Int), less (add x y) g (j + k) = add (less x g j) (less y g k)
  | [], [], g, _, _ => by cases g <;> rfl
  | [], _ :: _, g, _, _ => by cases g <;> rfl
  | _ :: _, [], g, _, _ => by cases g <;> rfl
  | a :: x, b :: y, [], _, _ => rfl
  | a :: x, b :: y, c :: g, j, k => by
    show (a + b - (j + k) * c) :: less (add x y) g (j + k) = (a - j * c + (b - k * c)) :: add (less x g j) (less y g k)
    rw [less_add j k, Int.add_mul]
    congr 1
    omega
theorem mir_add {g x y : List Int} (hg : g ∈ RT) (hx : Lat x) (hy : Lat y) : mir g (add x y) = add (mir g x) (mir g y) := by
  unfold mir
  have : dot g (add x y) = dot g x + dot g y := dot_of (RT_lat hg) (hx.add hy) (by rw [mulS_comm, mulS_add (by rw [hx.1, hy.1]), mulS_comm x, mulS_comm y, (RT_lat hg).dot hx, (RT_lat hg).dot hy, Int.mul_add])
  rw [this, less_add]
theorem add_rc : ∀ a b c : List Int, add (add a b) c = add (add a c) b
  | [], b, c => by cases b <;> cases c <;> rfl
  | _ :: _, [], c => by cases c <;> rfl
  | _ :: _, _ :: _, [] => rfl
  | x :: a, y :: b, z :: c => by
    show (x + y + z) :: add (add a b) c = (x + z + y) :: add (add a c) b
    rw [add_rc a b c]
    congr 1
    omega
/-- twice a row -/
def Tw (x : List Int) : Prop := ∃ h, Lat h ∧ x = smul 2 h
def half (x : List Int) : List Int := x.map fun a => a.fdiv 2
def twb (x : List Int) : Bool := x.all (fun a => a.fmod 2 == 0) && decide (Lat (half x))
theorem smul_half : ∀ {x : List Int}, (∀ a ∈ x, a.fmod 2 = 0) → smul 2 (half x) = x
  | [], _ => rfl
  | a :: x, h => by
    show (2 * a.fdiv 2) :: smul 2 (half x) = a :: x
    rw [smul_half fun b hb => h b (List.mem_cons_of_mem _ hb)]
    have h1 := h a List.mem_cons_self
    rw [Int.fmod_eq_emod_of_nonneg _ (by decide)] at h1
    rw [Int.fdiv_eq_ediv_of_nonneg _ (by decide)]
    congr 1
    omega
theorem half_smul : ∀ x : List Int, half (smul 2 x) = x
  | [] => rfl
  | a :: x => by
    show (2 * a).fdiv 2 :: half (smul 2 x) = a :: x
    rw [half_smul x, Int.fdiv_eq_ediv_of_nonneg _ (by decide)]
    congr 1
    omega
theorem tw_iff {x : List Int} : twb x = true ↔ Tw x := by
  unfold twb
  rw [Bool.and_eq_true, List.all_eq_true, decide_eq_true_eq]
  constructor
  · rintro ⟨h1, h2⟩
    exact ⟨_, h2, (smul_half fun a ha => by simpa using h1 a ha).symm⟩
  · rintro ⟨h, hl, rfl⟩
    refine ⟨fun a ha => ?_, by rw [half_smul]; exact hl⟩
    obtain ⟨b, _, rfl⟩ := List.mem_map.mp ha
    rw [Int.fmod_eq_emod_of_nonneg _ (by decide)]
    simp
theorem smul_add (m : Int) : ∀ x y : List Int, smul m (add x y) = add (smul m x) (smul m y)
  | [], y => by cases y <;> rfl
  | _ :: _, [] => rfl
  | a :: x, b :: y => by
    show (m * (a + b)) :: smul m (add x y) = (m * a + m * b) :: add (smul m x) (smul m y)
    rw [smul_add m x y, Int.mul_add]
theorem add_back : ∀ {x y : List Int}, x.length = y.length → add (add x y) (smul 2 (neg y)) = add x (neg y)
  | [], [], _ => rfl
  | a :: x, b :: y, h => by
    show (a + b + 2 * (-1 * b)) :: add (add x y) (smul 2 (neg y)) = (a + -1 * b) :: add x (neg y)
    rw [add_back (Nat.succ.inj h : x.length = y.length)]
    congr 1
    omega
theorem add_undo : ∀ {x y : List Int}, x.length = y.length → add (add x y) (neg y) = x
  | [], [], _ => rfl
  | a :: x, b :: y, h => by
    show (a + b + -1 * b) :: add (add x y) (neg y) = a :: x
    rw [add_undo (Nat.succ.inj h : x.length = y.length)]
    congr 1
    omega
theorem neg_smul (m : Int) (x : List Int) : neg (smul m x) = smul m (neg x) := by
  unfold neg smul
  rw [List.map_map, List.map_map]
  refine List.map_congr_left fun a _ => ?_
  show -1 * (m * a) = m * (-1 * a)
  rw [Int.mul_left_comm]
theorem tw_mod {x v : List Int} (hx : Lat x) (hv : Lat v) : Tw (add x (smul 2 v)) ↔ Tw x := by
  constructor
  · rintro ⟨h, hl, e⟩
    refine ⟨add h (neg v), hl.add (neg_lat hv), ?_⟩
    rw [smul_add, ← e, ← neg_smul, add_undo (by rw [hx.1, (hv.smul 2).1])]
  · rintro ⟨h, hl, rfl⟩
    exact ⟨add h v, hl.add hv, (smul_add ..).symm⟩
theorem tw_mir {g x : List Int} (hg : g ∈ RT) (hx : Lat x) : Tw (mir g x) ↔ Tw x := by
  have one : ∀ {x : List Int}, Lat x → Tw x → Tw (mir g x) := by
    rintro x _ ⟨h, hl, rfl⟩
    exact ⟨mir g h, mir_lat hg hl, mir_smul 2 hg hl⟩
  exact ⟨fun h => by rw [← mir_mir hg hx]; exact one (mir_lat hg hx) h, one hx⟩
/-- the sets of T whose sum, put to acc, is twice a row; k are taken -/
def cnt (p : Nat → Bool) : List (List Int) → List Int → Nat → Nat
  | [], acc, k => if twb acc && p k then 1 else 0
  | t :: T, acc, k => cnt p T acc k + cnt p T (add acc t) (k + 1)
section
variable {p : Nat → Bool}
theorem cnt_mod {v : List Int} (hv : Lat v) : ∀ (T : List (List Int)) (acc : List Int) (k : Nat), (∀ t ∈ T, Lat t) → Lat acc → cnt p T (add acc (smul 2 v)) k = cnt p T acc k
  | [], acc, k, _, ha => by
    have : twb (add acc (smul 2 v)) = twb acc := by rw [Bool.eq_iff_iff, tw_iff, tw_iff]; exact tw_mod ha hv
    unfold cnt
    rw [this]
  | t :: T, acc, k, hT, ha => by
    unfold cnt
    have ht := hT t List.mem_cons_self
    have hT' : ∀ t ∈ T, Lat t := fun t h => hT t (List.mem_cons_of_mem _ h)
    rw [cnt_mod hv T acc k hT' ha, add_rc, cnt_mod hv T (add acc t) (k + 1) hT' (ha.add ht)]
theorem cnt_neg {t : List Int} {T : List (List Int)} {acc : List Int} {k : Nat} (hT : ∀ t ∈ T, Lat t) (ht : Lat t) (ha : Lat acc) : cnt p (neg t :: T) acc k = cnt p (t :: T) acc k := by
  show cnt p T acc k + cnt p T (add acc (neg t)) (k + 1) = cnt p T acc k + cnt p T (add acc t) (k + 1)
  rw [← add_back (by rw [ha.1, ht.1]), cnt_mod (neg_lat ht) T _ _ hT (ha.add ht)]
theorem cnt_perm {T U : List (List Int)} (h : T.Perm U) : ∀ (acc : List Int) (k : Nat), cnt p T acc k = cnt p U acc k := by
  induction h with
  | nil => exact fun _ _ => rfl
  | cons x _ ih =>
    intro acc k
    show cnt p _ acc k + cnt p _ (add acc x) (k + 1) = cnt p _ acc k + cnt p _ (add acc x) (k + 1)
    rw [ih, ih]
  | swap x y l =>
    intro acc k
    show cnt p l acc k + cnt p l (add acc x) (k + 1) + (cnt p l (add acc y) (k + 1) + cnt p l (add (add acc y) x) (k + 1 + 1)) = cnt p l acc k + cnt p l (add acc y) (k + 1) + (cnt p l (add acc x) (k + 1) + cnt p l (add (add acc x) y) (k + 1 + 1))
    rw [add_rc acc y x]
    omega
  | trans _ _ h1 h2 => exact fun acc k => (h1 acc k).trans (h2 acc k)
theorem cnt_mir {g : List Int} (hg : g ∈ RT) : ∀ (T : List (List Int)) (acc : List Int) (k : Nat), (∀ t ∈ T, Lat t) → Lat acc → cnt p (T.map (mir g)) (mir g acc) k = cnt p T acc k
  | [], acc, k, _, ha => by
    have : twb (mir g acc) = twb acc := by rw [Bool.eq_iff_iff, tw_iff, tw_iff]; exact tw_mir hg ha
    unfold cnt
    show (if twb (mir g acc) && p k then 1 else 0) = _
    rw [this]
  | t :: T, acc, k, hT, ha => by
    have ht := hT t List.mem_cons_self
    have hT' : ∀ t ∈ T, Lat t := fun t h => hT t (List.mem_cons_of_mem _ h)
    show cnt p (T.map (mir g)) (mir g acc) k + cnt p (T.map (mir g)) (add (mir g acc) (mir g t)) (k + 1) = cnt p T acc k + cnt p T (add acc t) (k + 1)
    rw [← mir_add hg ha ht, cnt_mir hg T acc k hT' ha, cnt_mir hg T _ _ hT' (ha.add ht)]
/-- up to signs -/
theorem cnt_sign (σ : List Int → Bool) : ∀ (T : List (List Int)) (acc : List Int) (k : Nat), (∀ t ∈ T, Lat t) → Lat acc → cnt p (T.map fun t => if σ t then t else neg t) acc k = cnt p T acc k
  | [], _, _, _, _ => rfl
  | t :: T, acc, k, hT, ha => by
    have ht := hT t List.mem_cons_self
    have hT' : ∀ t ∈ T, Lat t := fun t h => hT t (List.mem_cons_of_mem _ h)
    have hm : ∀ u ∈ T.map fun t => if σ t then t else neg t, Lat u := fun u hu => by
      obtain ⟨t, ht, rfl⟩ := List.mem_map.mp hu
      split
      · exact hT' t ht
      · exact neg_lat (hT' t ht)
    rw [List.map_cons]
    have e : cnt p ((if σ t then t else neg t) :: T.map fun t => if σ t then t else neg t) acc k = cnt p (t :: T.map fun t => if σ t then t else neg t) acc k := by
      split
      · rfl
      · exact cnt_neg hm ht ha
    rw [e]
    show cnt p (T.map fun t => if σ t then t else neg t) acc k + cnt p (T.map fun t => if σ t then t else neg t) (add acc t) (k + 1) = cnt p T acc k + cnt p T (add acc t) (k + 1)
    rw [cnt_sign σ T acc k hT' ha, cnt_sign σ T _ _ hT' (ha.add ht)]
end
def z8 : List Int := [0, 0, 0, 0, 0, 0, 0, 0]
theorem z8_lat : Lat z8 := by decide
theorem mir_z8 {g : List Int} (hg : g ∈ RT) : mir g z8 = z8 := mir_fix hg z8_lat (by
  match g, RT_l8 hg with
  | [a, b, c, d, e, f, g, h], _ => simp [mulS, z8])
/-- eight roots, any two of product 0, with 16 such sets, 14 of four -/
structure Fr (F : List (List Int)) : Prop where
  len : F.length = 8
  rt : ∀ x ∈ F, x ∈ RT
  pw : F.Pairwise fun x y => mulS x y = 0
  all : cnt (fun _ => true) F z8 0 = 16
  four : cnt (fun k => k == 4) F z8 0 = 14
theorem Fr.mir {g : List Int} {F : List (List Int)} (h : Fr F) (hg : g ∈ RT) : Fr (F.map (mir g)) := by
  have hl : ∀ t ∈ F, Lat t := fun t ht => RT_lat (h.rt t ht)
  refine ⟨by rw [List.length_map, h.len], fun x hx => ?_, ?_, ?_, ?_⟩
  · obtain ⟨y, hy, rfl⟩ := List.mem_map.mp hx
    exact mir_RT hg (h.rt y hy)
  · refine List.pairwise_map.mpr (h.pw.imp_of_mem fun {x y} hx hy q => ?_)
    rw [mulS_mirR hg (h.rt x hx) (h.rt y hy), q]
  · have := cnt_mir (p := fun _ => true) hg F z8 0 hl z8_lat
    rw [mir_z8 hg] at this
    rw [this, h.all]
  · have := cnt_mir (p := fun k => k == 4) hg F z8 0 hl z8_lat
    rw [mir_z8 hg] at this
    rw [this, h.four]
def E0 : List Int := [0, 0, 2, -2, 0, 0, 0, 0]
def X1 : List (List Int) := [E0, [0, 0, 0, 0, 2, 2, 0, 0], [0, 0, 0, 0, 2, -2, 0, 0], [0, 0, 0, 0, 0, 0, 2, 2], [0, 0, 0, 0, 0, 0, 2, -2]]
def X2 : List (List Int) := [E0, [0, 0, 0, 0, 2, 0, 2, 0], [0, 0, 0, 0, 2, 0, -2, 0], [0, 0, 0, 0, 0, 2, 0, 2], [0, 0, 0, 0, 0, 2, 0, -2]]
def X3 : List (List Int) := [E0, [0, 0, 0, 0, 2, 0, 0, 2], [0, 0, 0, 0, 2, 0, 0, -2], [0, 0, 0, 0, 0, 2, 2, 0], [0, 0, 0, 0, 0, 2, -2, 0]]
def XS : List (List (List Int)) := [X1, X2, X3]
def inPM (X : List (List Int)) (x : List Int) : Bool := X.contains x || X.contains (neg x)
def pwB : List (List Int) → Bool
  | [] => true
  | x :: l => (l.all fun y => mulS x y == 0) && pwB l
theorem pwB_ok : ∀ {l : List (List Int)}, pwB l = true → l.Pairwise fun x y => mulS x y = 0
  | [], _ => .nil
  | x :: l, h => by
    have h' : ((l.all fun y => mulS x y == 0) && pwB l) = true := h
    rw [Bool.and_eq_true, List.all_eq_true] at h'
    exact List.pairwise_cons.mpr ⟨fun y hy => by simpa using h'.1 y hy, pwB_ok h'.2⟩
def frB (F : List (List Int)) : Bool := F.length == 8 && (F.all fun x => RT.contains x) && pwB F && cnt (fun _ => true) F z8 0 == 16 && cnt (fun k => k == 4) F z8 0 == 14
theorem frB_ok {F : List (List Int)} (h : frB F = true) : Fr F := by
  unfold frB at h
  simp only [Bool.and_eq_true, beq_iff_eq, List.all_eq_true, List.contains_iff_mem] at h
  obtain ⟨⟨⟨⟨h1, h2⟩, h3⟩, h4⟩, h5⟩ := h
  exact ⟨h1, h2, pwB_ok h3, h4, h5⟩
theorem XS_fr : XS.all (fun X => frB (r0 :: b0 :: c0 :: X)) = true := by decide +kernel
theorem O3_one : O3.all (fun x => inPM [E0] x || XS.any fun X => inPM X x) = true := by decide +kernel
theorem O3_two : XS.all (fun X => inPM X E0 && O3.all fun x => !inPM X x || (inPM [E0] x || O3.all fun y => !(mulS x y == 0) || inPM X y)) = true := by decide +kernel
theorem inPM_iff {X : List (List Int)} {x : List Int} : inPM X x = true ↔ x ∈ X ∨ neg x ∈ X := by
  unfold inPM
  rw [Bool.or_eq_true, List.contains_iff_mem, List.contains_iff_mem]
theorem inPM_E0 {X : List (List Int)} {x : List Int} (hX : X ∈ XS) (h : inPM [E0] x = true) : inPM X x = true := by
  have he : E0 ∈ X := by
    rcases List.mem_cons.mp hX with rfl | hX
    · exact List.mem_cons_self
    · rcases List.mem_cons.mp hX with rfl | hX
      · exact List.mem_cons_self
      · rw [List.mem_singleton.mp hX]; exact List.mem_cons_self
  rcases inPM_iff.mp h with h | h
  · exact inPM_iff.mpr (.inl (by rw [List.mem_singleton.mp h]; exact he))
  · exact inPM_iff.mpr (.inr (by rw [List.mem_singleton.mp h]; exact he))
theorem pw_or : ∀ {T : List (List Int)}, T.Pairwise (fun x y => mulS x y = 0) → ∀ x ∈ T, ∀ y ∈ T, x = y ∨ mulS x y = 0
  | [], _, x, hx, _, _ => by cases hx
  | a :: T, h, x, hx, y, hy => by
    obtain ⟨p, h'⟩ := List.pairwise_cons.mp h
    rcases List.mem_cons.mp hx with e1 | h1
    · rcases List.mem_cons.mp hy with e2 | h2
      · exact .inl (by rw [e1, e2])
      · exact .inr (by rw [e1]; exact p y h2)
    · rcases List.mem_cons.mp hy with e2 | h2
      · exact .inr (by rw [e2, mulS_comm]; exact p x h1)
      · exact pw_or h' x h1 y h2
theorem frame_base : ∀ T : List (List Int), (∀ x ∈ T, x ∈ osq [r0, b0, c0]) → T.Pairwise (fun x y => mulS x y = 0) → ∃ X, Fr (r0 :: b0 :: c0 :: X) ∧ ∀ x ∈ T, x ∈ X ∨ neg x ∈ X := by
  intro T hT hp
  by_cases q : ∃ x ∈ T, inPM [E0] x = false
  · obtain ⟨x, hx, hxe⟩ := q
    have h1 := List.all_eq_true.mp O3_one x (hT x hx)
    rw [hxe, Bool.false_or, List.any_eq_true] at h1
    obtain ⟨X, hX, hxX⟩ := h1
    refine ⟨X, frB_ok (List.all_eq_true.mp XS_fr X hX), fun y hy => inPM_iff.mp ?_⟩
    have h2 := List.all_eq_true.mp O3_two X hX
    rw [Bool.and_eq_true, List.all_eq_true] at h2
    have h3 := h2.2 x (hT x hx)
    rw [hxX, hxe, Bool.not_true, Bool.false_or, Bool.false_or, List.all_eq_true] at h3
    rcases pw_or hp x hx y hy with rfl | h4
    · exact hxX
    · have := h3 y (hT y hy)
      rw [h4] at this
      simpa using this
  · refine ⟨X1, frB_ok (List.all_eq_true.mp XS_fr X1 (by simp [XS])), fun y hy => inPM_iff.mp (inPM_E0 (by simp [XS]) ?_)⟩
    cases e : inPM [E0] y with
    | true => rfl
    | false => exact absurd ⟨y, hy, e⟩ q
theorem frame_tri : ∀ a ∈ RT, ∀ b ∈ RT, ∀ c ∈ RT, mulS a b = 0 → mulS a c = 0 → mulS b c = 0 → ∀ T : List (List Int), (∀ x ∈ T, x ∈ osq [a, b, c]) → T.Pairwise (fun x y => mulS x y = 0) → ∃ X, Fr (a :: b :: c :: X) ∧ ∀ x ∈ T, x ∈ X ∨ neg x ∈ X := by
  refine otri_ind frame_base fun g hg a ha b hb c hc q T hT hp => ?_
  have hr : ∀ x ∈ T, x ∈ RT := fun x hx => (osq_mem.mp (hT x hx)).1
  have hm : ∀ x ∈ T.map (mir g), x ∈ osq [mir g a, mir g b, mir g c] := by
    intro x hx
    obtain ⟨y, hy, rfl⟩ := List.mem_map.mp hx
    obtain ⟨h1, h2⟩ := osq_mem.mp (hT y hy)
    refine osq_mem.mpr ⟨mir_RT hg h1, fun z hz => ?_⟩
    have e : [mir g a, mir g b, mir g c] = [a, b, c].map (mir g) := rfl
    rw [e] at hz
    obtain ⟨u, hu, rfl⟩ := List.mem_map.mp hz
    rw [mulS_mir hg (lat3 ha hb hc u hu) (RT_lat h1)]
    exact h2 u hu
  obtain ⟨X, hX, h⟩ := q (T.map (mir g)) hm (List.pairwise_map.mpr (hp.imp_of_mem fun {x y} hx hy q => by rw [mulS_mirR hg (hr x hx) (hr y hy), q]))
  refine ⟨X.map (mir g), ?_, fun x hx => ?_⟩
  · have := hX.mir hg
    rw [List.map_cons, List.map_cons, List.map_cons, mir_mir hg (RT_lat ha), mir_mir hg (RT_lat hb), mir_mir hg (RT_lat hc)] at this
    exact this
  · rcases h _ (List.mem_map.mpr ⟨x, hx, rfl⟩) with e | e
    · exact .inl (List.mem_map.mpr ⟨_, e, mir_mir hg (RT_lat (hr x hx))⟩)
    · refine .inr (List.mem_map.mpr ⟨_, e, ?_⟩)
      unfold neg
      rw [mir_smul _ hg (mir_lat hg (RT_lat (hr x hx))), mir_mir hg (RT_lat (hr x hx))]
/-- roots of product 0 are in a frame, up to signs -/
theorem frame_of : ∀ T : List (List Int), (∀ x ∈ T, x ∈ RT) → T.Pairwise (fun x y => mulS x y = 0) → ∃ F, Fr F ∧ ∀ x ∈ T, x ∈ F ∨ neg x ∈ F := by
  have two : ∀ a ∈ RT, ∀ b ∈ RT, mulS a b = 0 → ∃ F, Fr F ∧ a ∈ F ∧ b ∈ F := by
    intro a ha b hb h
    obtain ⟨c, hc⟩ : ∃ c, c ∈ osq [a, b] := List.exists_mem_of_length_pos (by rw [o60 a ha b hb h]; decide)
    obtain ⟨h1, h2⟩ := osq_mem.mp hc
    obtain ⟨X, hX, _⟩ := frame_tri a ha b hb c h1 h (h2 a (by simp)) (h2 b (by simp)) [] (fun x hx => by cases hx) .nil
    exact ⟨_, hX, by simp, by simp⟩
  have one : ∀ a ∈ RT, ∃ F, Fr F ∧ a ∈ F := by
    intro a ha
    obtain ⟨b, hb⟩ : ∃ b, b ∈ osq [a] := List.exists_mem_of_length_pos (by rw [o126 a ha]; decide)
    obtain ⟨h1, h2⟩ := osq_mem.mp hb
    obtain ⟨F, hF, h3, _⟩ := two a ha b h1 (h2 a (by simp))
    exact ⟨F, hF, h3⟩
  intro T hT hp
  match T, hT, hp with
  | [], _, _ =>
    obtain ⟨F, hF, _⟩ := one r0 r0_in
    exact ⟨F, hF, fun x hx => by cases hx⟩
  | [a], hT, _ =>
    obtain ⟨F, hF, h⟩ := one a (hT a (by simp))
    exact ⟨F, hF, fun x hx => .inl (by rw [List.mem_singleton.mp hx]; exact h)⟩
  | [a, b], hT, hp =>
    obtain ⟨F, hF, h1, h2⟩ := two a (hT a (by simp)) b (hT b (by simp)) ((List.pairwise_cons.mp hp).1 b (by simp))
    refine ⟨F, hF, fun x hx => .inl ?_⟩
    rcases List.mem_cons.mp hx with rfl | hx
    · exact h1
    · rw [List.mem_singleton.mp hx]; exact h2
  | a :: b :: c :: T, hT, hp =>
    obtain ⟨p1, hp⟩ := List.pairwise_cons.mp hp
    obtain ⟨p2, hp⟩ := List.pairwise_cons.mp hp
    obtain ⟨p3, hp⟩ := List.pairwise_cons.mp hp
    obtain ⟨X, hX, h⟩ := frame_tri a (hT a (by simp)) b (hT b (by simp)) c (hT c (by simp)) (p1 b (by simp)) (p1 c (by simp)) (p2 c (by simp)) T (fun x hx => by
      refine osq_mem.mpr ⟨hT x (by simp [hx]), fun a ha => ?_⟩
      rcases List.mem_cons.mp ha with rfl | ha
      · exact p1 x (by simp [hx])
      · rcases List.mem_cons.mp ha with rfl | ha
        · exact p2 x (by simp [hx])
        · rw [List.mem_singleton.mp ha]; exact p3 x hx) hp
    refine ⟨_, hX, fun x hx => ?_⟩
    rcases List.mem_cons.mp hx with rfl | hx
    · exact .inl (by simp)
    · rcases List.mem_cons.mp hx with rfl | hx
      · exact .inl (by simp)
      · rcases List.mem_cons.mp hx with rfl | hx
        · exact .inl (by simp)
        · rcases h x hx with e | e
          · exact .inl (by simp [e])
          · exact .inr (by simp [e])
theorem sub_len {α : Type} [DecidableEq α] : ∀ {l m : List α}, l.Nodup → (∀ x ∈ l, x ∈ m) → l.length ≤ m.length
  | [], m, _, _ => Nat.zero_le _
  | x :: l, m, h, hs => by
    have hx := hs x List.mem_cons_self
    have := sub_len (l := l) (m := m.erase x) (List.nodup_cons.mp h).2 fun y hy => (List.mem_erase_of_ne (fun e => (List.nodup_cons.mp h).1 (by rw [← e]; exact hy))).mpr (hs y (List.mem_cons_of_mem _ hy))
    rw [List.length_erase_of_mem hx] at this
    have := List.length_pos_of_mem hx
    rw [List.length_cons]
    omega
section
variable {T : List (List Int)} (hT : ∀ x ∈ T, x ∈ RT) (hp : T.Pairwise fun x y => mulS x y = 0)
include hT hp in
/-- T put into a frame -/
theorem frame_map : ∃ F, Fr F ∧ ∃ σ : List Int → Bool, (∀ x ∈ T, (if σ x then x else neg x) ∈ F) ∧ (T.map fun x => if σ x then x else neg x).Nodup := by
  obtain ⟨F, hF, h⟩ := frame_of T hT hp
  refine ⟨F, hF, fun x => F.contains x, fun x hx => ?_, List.pairwise_map.mpr (hp.imp_of_mem fun {x y} hx hy q e => ?_)⟩
  · by_cases e : F.contains x = true
    · rw [if_pos e]; exact List.contains_iff_mem.mp e
    · rw [if_neg e]
      rcases h x hx with q | q
      · exact absurd (List.contains_iff_mem.mpr q) e
      · exact q
  · have s : ∀ (b c : Bool), mulS (if b then x else neg x) (if c then y else neg y) = 0 := by
      intro b c
      cases b <;> cases c <;> simp [mulS_neg, mulS_neg', q]
    have s1 := s (F.contains x) (F.contains y)
    rw [← e] at s1
    have s2 : mulS (if F.contains x then x else neg x) (if F.contains x then x else neg x) = 8 := by
      split
      · exact RT_sq (hT x hx)
      · exact RT_sq (neg_RT (hT x hx))
    rw [s2] at s1
    cases s1
theorem Fr.nodup {F : List (List Int)} (h : Fr F) : F.Nodup := h.pw.imp_of_mem fun {x y} hx hy q e => by
  subst e
  rw [RT_sq (h.rt x hx)] at q
  cases q
include hT hp in
theorem frame_le : T.length ≤ 8 := by
  obtain ⟨F, hF, σ, h1, h2⟩ := frame_map hT hp
  have := sub_len h2 (m := F) fun y hy => by
    obtain ⟨x, hx, rfl⟩ := List.mem_map.mp hy
    exact h1 x hx
  rwa [List.length_map, hF.len] at this
include hT hp in
/-- fewer than eight: another -/
theorem frame_more (h8 : T.length < 8) : ∃ z ∈ RT, ∀ x ∈ T, mulS x z = 0 := by
  obtain ⟨F, hF, σ, h1, h2⟩ := frame_map hT hp
  obtain ⟨z, hz, hn⟩ : ∃ z ∈ F, z ∉ T.map fun x => if σ x then x else neg x := by
    refine Classical.byContradiction fun hn => ?_
    have := sub_len hF.nodup (m := T.map fun x => if σ x then x else neg x) fun z hz => Classical.byContradiction fun q => hn ⟨z, hz, q⟩
    rw [List.length_map, hF.len] at this
    omega
  refine ⟨z, hF.rt z hz, fun x hx => ?_⟩
  have hx' := h1 x hx
  rcases pw_or hF.pw _ hx' z hz with e | e
  · exact absurd (List.mem_map.mpr ⟨x, hx, e⟩) hn
  · split at e
    · exact e
    · rw [mulS_neg] at e; omega
include hT hp in
theorem frame_cnt (h8 : T.length = 8) : cnt (fun _ => true) T z8 0 = 16 ∧ cnt (fun k => k == 4) T z8 0 = 14 := by
  obtain ⟨F, hF, σ, h1, h2⟩ := frame_map hT hp
  have sub : ∀ y ∈ T.map fun x => if σ x then x else neg x, y ∈ F := fun y hy => by
    obtain ⟨x, hx, rfl⟩ := List.mem_map.mp hy
    exact h1 x hx
  have pm : (T.map fun x => if σ x then x else neg x).Perm F := by
    refine (List.perm_ext_iff_of_nodup h2 hF.nodup).mpr fun z => ⟨sub z, fun hz => Classical.byContradiction fun hn => ?_⟩
    have := sub_len (l := z :: T.map fun x => if σ x then x else neg x) (List.nodup_cons.mpr ⟨hn, h2⟩) (m := F) fun y hy => by
      rcases List.mem_cons.mp hy with rfl | hy
      · exact hz
      · exact sub y hy
    rw [List.length_cons, List.length_map, hF.len] at this
    omega
  have hl : ∀ t ∈ T, Lat t := fun t ht => RT_lat (hT t ht)
  exact ⟨by rw [← cnt_sign σ T z8 0 hl z8_lat, cnt_perm pm, hF.all], by rw [← cnt_sign σ T z8 0 hl z8_lat, cnt_perm pm, hF.four]⟩
end
end Pf

set_option Elab.async false
set_option linter.all false
set_option maxRecDepth 100000
set_option maxHeartbeats 4000000
namespace Pf
open PySem PySem.Spec PyProof.Rows L2
theorem zipD_ints : ∀ (r s : List Int), zipD (r.map D.int) (s.map D.int) = (r.zip s).map fun p => D.tup [.int p.1, .int p.2]
  | [], _ => rfl
  | _ :: _, [] => rfl
  | a :: r, b :: s => by show D.tup [.int a, .int b] :: zipD (r.map D.int) (s.map D.int) = _; rw [zipD_ints r s]; rfl
theorem zip_rows {ρ : En} {φ φ1 : Fd} {S : SA} {r s : List Int} (h : S ρ φ = .ok [row r, row s] φ1) : iZp S ρ φ = .ok ((r.zip s).map fun p => D.tup [.int p.1, .int p.2]) φ1 := by
  unfold iZp
  rw [bind_ok' h]
  show O.ok (zipD (r.map D.int) (s.map D.int)) φ1 = _
  rw [zipD_ints]
theorem zip_map {α β γ : Type} (f : α → β → γ) : ∀ (r : List α) (s : List β), (r.zip s).map (fun p => f p.1 p.2) = List.zipWith f r s
  | [], _ => rfl
  | _ :: _, [] => rfl
  | a :: r, b :: s => by simp [zip_map f r s]
theorem zip_len {r s : List Int} (h : r.length ≤ 1000) : (r.zip s).length ≤ sizeLine := size_le (by rw [List.length_zip]; omega)
theorem gAdd_l {l k : List D} (h : l.length + k.length ≤ 1000000) : gAdd (.lst l) (.lst k) = some (.lst (l ++ k)) := by
  show (if _ then _ else _) = _
  rw [if_pos (size_le h)]
theorem eo_len : EV.length + OD.length = 240 := by decide +kernel
theorem range8 {r s : List Int} (hr : r.length = 8) (hs : s.length = 8) (f : Int → Int → Int) : (List.range 8).map (fun k => f (r.getD k 0) (s.getD k 0)) = List.zipWith f r s := by
  match r, hr, s, hs with
  | [a, b, c, d, e, g, h, i], _, [a', b', c', d', e', g', h', i'], _ => rfl
theorem getD_get {r : List Int} {k : Nat} (hr : r.length = 8) (hk : k ∈ List.range 8) : r[k]? = some (r.getD k 0) := by
  have hk' : k < r.length := by rw [hr]; exact List.mem_range.mp hk
  rw [List.getD_eq_getElem?_getD, List.getElem?_eq_getElem hk']; rfl
theorem getD_bd {r : List Int} {k : Nat} (h : Rw r) (hk : k ∈ List.range 8) : (r.getD k 0).natAbs ≤ 1000000 := h.2 _ (List.mem_of_getElem? (getD_get h.1 hk))
theorem rg8 {ρ : En} {φ : Fd} : iRg1 (aCons (eInt 8) aNil) ρ φ = .ok ((List.range 8).map fun (k : Nat) => D.int k) φ := rg1_ok (n := 8) rfl (by decide)
def R.env : R → En
  | .nx ρ _ => ρ
  | _ => []
theorem seq_env {P Q : SS} {ρ : En} {φ : Fd} {r : R} (h : P ρ φ = .nx (P ρ φ).env φ) (h2 : Q (P ρ φ).env φ = r) : sSeq P Q ρ φ = r := seq_nx h h2
theorem gIx_last (l : List D) (x : D) : gIx (.lst (l ++ [x])) (.int (-1)) = some x := atI_last l x
section
variable {α : Type} [DecidableEq α] {f : α → D} {lt : α → α → Bool} {n : Nat}
theorem ofold0_len (p : List α) (hp : p.length ≤ 100000) : (p.foldl ostep []).length ≤ 100000 := by
  have := ofold_len p []
  simp at this
  omega
theorem each_loop {T : SB} (l : List α) (φ : Fd) (hl : l.length ≤ 100000) (xs : List α) (hxs : xs.length ≤ 100000)
    (hT : ∀ (acc : List α) (x : α), acc.length ≤ 100000 → T [some (D.lst (l.map f)), some (D.lst (acc.map f)), some (f x)] φ = .ok (!decide (acc.getLast? = some x)) φ) :
    ∃ ρ', forGo (tgN 2) (sSeq (sIf T (sSeq (sMut 1 gApp (eVar 2)) sNil) sNil) sNil) (xs.map f) [some (D.lst (l.map f)), some (.lst []), none] φ = .nx ρ' φ ∧ ∃ y, ρ' = [some (D.lst (l.map f)), some (D.lst ((xs.foldl ostep []).map f)), y] := by
  obtain ⟨ρ', h1, h2⟩ := for_inv (T := tgN 2) (φ := φ) (e := f) (B := (sSeq (sIf T (sSeq (sMut 1 gApp (eVar 2)) sNil) sNil) sNil))
    (fun pre ρ => ∃ y, ρ = [some (D.lst (l.map f)), some (D.lst ((pre.foldl ostep []).map f)), y]) xs [] (ρ := [some (D.lst (l.map f)), some (.lst []), none]) ⟨none, rfl⟩ (by
    rintro pre x post ρ hp ⟨y, rfl⟩
    have hpl : pre.length ≤ 100000 := by
      have := congrArg List.length hp
      rw [List.nil_append, List.length_append] at this
      omega
    have hal := ofold0_len pre hpl
    refine ⟨_, rfl, ?_⟩
    have t := hT (pre.foldl ostep []) x hal
    rw [List.foldl_append]
    show ∃ ρ2, _ ∧ ∃ y, ρ2 = [_, some (D.lst ((ostep (pre.foldl ostep []) x).map f)), y]
    generalize pre.foldl ostep [] = acc at hal t
    by_cases e : acc.getLast? = some x
    · refine ⟨_, .inl (seq_nx (if_skip (t.trans (by simp [e]))) rfl), some (f x), ?_⟩
      unfold ostep
      rw [if_pos e]
      rfl
    · refine ⟨_, .inl (seq_nx (if_yes (t.trans (by simp [e])) (seq_nx (app_ok (l := acc.map f) rfl (v_ok rfl) (size_lt (by rw [List.length_map]; omega))) rfl)) rfl), some (f x), ?_⟩
      unfold ostep
      rw [if_neg e, List.map_append]
      rfl)
  exact ⟨ρ', h1, h2⟩
theorem last_ne (h : Emb f lt n) (hn : n < 64) (l acc : List α) (z x : α) (φ : Fd) : (bCmp gNe (eBin gIx (eVar 1) (eUn gNeg (eInt 1))) (eVar 2)) [some (D.lst (l.map f)), some (D.lst ((acc.concat z).map f)), some (f x)] φ = .ok (!decide (z = x)) φ := by
  refine cmp_ok (bin_ok (v_ok rfl) (un_ok rfl rfl) ?_) (v_ok rfl) (h.gNe (by omega) z x)
  have e0 : (acc.concat z).map f = acc.map f ++ [f z] := by simp
  rw [e0]
  exact gIx_last _ _
end
section
variable {α β : Type} {T T1 : Tg} {I1 : SA} {tst1 : SB} {elt : SX} {vs vs1 : List Nat} {ρ : En} {φ φ1 : Fd}
theorem lc2Go_map (e : α → D) (ys : α → List β) (e1 : β → D) (p : α → β → Bool) (g : α → β → D) : ∀ (xs : List α), (∀ x ∈ xs, ∃ ρ1, T (e x) ρ = some ρ1 ∧ I1 ρ1 φ = .ok ((ys x).map e1) φ ∧ ∀ y ∈ ys x, ∃ ρ2, T1 (e1 y) (wipeE ρ1 vs1) = some ρ2 ∧ tst1 ρ2 φ = .ok (p x y) φ ∧ (p x y = true → elt ρ2 φ = .ok (g x y) φ)) →
    lc2Go T bYes I1 T1 tst1 elt vs1 ρ (xs.map e) φ = .ok (xs.flatMap fun x => ((ys x).filter (p x)).map (g x)) φ
  | [], _ => rfl
  | x :: xs, h => by
    obtain ⟨ρ1, h1, h2, h3⟩ := h x List.mem_cons_self
    have ih := lc2Go_map e ys e1 p g xs fun y hy => h y (List.mem_cons_of_mem _ hy)
    have hin := lcGo_map (T := T1) (tst := tst1) (elt := elt) (ρ := wipeE ρ1 vs1) (φ := φ) e1 (p x) (g x) (ys x) h3
    rw [List.map_cons]
    unfold lc2Go
    rw [h1]
    simp only [bYes, h2, hin, ih, List.flatMap_cons]
theorem lc2_ok {I : SA} (xs : List α) (e : α → D) (ys : α → List β) (e1 : β → D) (p : α → β → Bool) (g : α → β → D) (hI : I ρ φ1 = .ok (xs.map e) φ)
    (hl : (xs.flatMap fun x => ((ys x).filter (p x)).map (g x)).length ≤ sizeLine)
    (h : ∀ x ∈ xs, ∃ ρ1, T (e x) (wipeE ρ vs) = some ρ1 ∧ I1 ρ1 φ = .ok ((ys x).map e1) φ ∧ ∀ y ∈ ys x, ∃ ρ2, T1 (e1 y) (wipeE ρ1 vs1) = some ρ2 ∧ tst1 ρ2 φ = .ok (p x y) φ ∧ (p x y = true → elt ρ2 φ = .ok (g x y) φ)) :
    eLc2 I T bYes I1 T1 tst1 elt vs vs1 ρ φ1 = .ok (.lst (xs.flatMap fun x => ((ys x).filter (p x)).map (g x))) φ := by
  unfold eLc2
  rw [hI]
  show (match lc2Go T bYes I1 T1 tst1 elt vs1 (wipeE ρ vs) (xs.map e) φ with | .ok ys φ2 => if ys.length ≤ sizeLine then O.ok (D.lst ys) φ2 else .bad | _ => .bad) = _
  rw [lc2Go_map e ys e1 p g xs h]
  show (if _ then _ else _) = _
  rw [if_pos hl]
end
theorem in_rows (x : List Int) (l : List (List Int)) : gIn false (row x) (rws l) = some (.bl (decide (x ∈ l))) := by
  have := emb_row.gIn (by decide) false x l
  rw [if_neg (by decide)] at this
  exact this.trans (congrArg (fun b => some (D.bl b)) (decide_eq_decide.mpr Iff.rfl))
theorem notin_rows (x : List Int) (l : List (List Int)) : gIn true (row x) (rws l) = some (.bl (!decide (x ∈ l))) := by
  have := emb_row.gIn (by decide) true x l
  rw [if_pos rfl] at this
  exact this.trans (congrArg (fun b => some (D.bl (!b))) (decide_eq_decide.mpr Iff.rfl))
theorem mulS_nn : ∀ x : List Int, 0 ≤ mulS x x
  | [] => by decide
  | a :: x => by
    rw [mulS_cons]
    have := mulS_nn x
    have := sq_nn a
    omega
theorem dot_bd {g x : List Int} (hg : g ∈ RT) (hx : x ∈ RT) : (dot g x).natAbs ≤ 2 := by
  have hl : g.length = x.length := by rw [RT_l8 hg, RT_l8 hx]
  have h1 := mulS_nn (add g x)
  have h2 := mulS_nn (less g x 1)
  rw [mulS_add hl, mulS_comm g, mulS_comm x (add g x), mulS_add hl, mulS_add hl, RT_sq hg, RT_sq hx, mulS_comm x g] at h1
  rw [mulS_less 1 hl, mulS_less' 1 hl, mulS_less' 1 hl, RT_sq hg, RT_sq hx, mulS_comm x g] at h2
  have := (RT_lat hg).dot (RT_lat hx)
  omega
def pfl (d : D) : Bool := d.flatB && d.shp
def pln : Nat → D → Bool
  | 0, d => pfl d
  | n + 1, d => match d with
    | .lst l => decide (l.length ≤ 1000000) && l.all (pln n)
    | .tup l => decide (l.length ≤ 1000000) && l.all (pln n)
    | d => pfl d
theorem len_ok {ρ : En} {φ : Fd} {A : SX} {l : List D} (h : A ρ φ = .ok (.lst l) φ) : eCB gLen (aCons A aNil) ρ φ = .ok (.int (l.length : Int)) φ := cb1_ok h rfl
theorem all_true {n : Nat} {ρ : En} {φ : Fd} {A : SX} (h : A ρ φ = .ok (.lst ((List.range n).map fun _ => D.bl true)) φ) : eCB gAll (aCons A aNil) ρ φ = .ok (.bl true) φ := by
  refine cb1_ok h ?_
  have e : (List.range n).map (fun _ => D.bl true) = ((List.range n).map fun _ => true).map D.bl := by rw [List.map_map]; rfl
  show (blsOf _).map (fun ns : List Bool => D.bl (ns.all id)) = _
  rw [e, blsOf_map]
  simp
theorem pln_row {r : List Int} (h : r.length ≤ 1000000) : pln 1 (row r) = true := by
  show (decide ((r.map D.int).length ≤ 1000000) && (r.map D.int).all (pln 0)) = true
  rw [List.length_map, decide_eq_true h, Bool.true_and, List.all_map, List.all_eq_true]
  intro x _
  rfl
theorem pln_map {α : Type} {f : α → D} {n : Nat} {l : List α} (hl : l.length ≤ 1000000) (h : ∀ x ∈ l, pln n (f x) = true) : pln (n + 1) (.lst (l.map f)) = true := by
  show (decide ((l.map f).length ≤ 1000000) && (l.map f).all (pln n)) = true
  rw [List.length_map, decide_eq_true hl, Bool.true_and, List.all_map, List.all_eq_true]
  intro x hx
  exact h x hx
theorem pln_up : ∀ (n : Nat) (d : D), pln n d = true → pln (n + 1) d = true
  | 0, d, h => by cases d <;> first | exact h | exact absurd h (by simp [pln, pfl, D.flatB])
  | n + 1, d, h => by
    cases d with
    | lst l =>
      have h' : (decide (l.length ≤ 1000000) && l.all (pln n)) = true := h
      rw [Bool.and_eq_true, List.all_eq_true] at h'
      show (decide (l.length ≤ 1000000) && l.all (pln (n + 1))) = true
      rw [Bool.and_eq_true, List.all_eq_true]
      exact ⟨h'.1, fun x hx => pln_up n x (h'.2 x hx)⟩
    | tup l =>
      have h' : (decide (l.length ≤ 1000000) && l.all (pln n)) = true := h
      rw [Bool.and_eq_true, List.all_eq_true] at h'
      show (decide (l.length ≤ 1000000) && l.all (pln (n + 1))) = true
      rw [Bool.and_eq_true, List.all_eq_true]
      exact ⟨h'.1, fun x hx => pln_up n x (h'.2 x hx)⟩
    | _ => exact h
theorem pln_le {n m : Nat} {d : D} (h : pln n d = true) (hm : n ≤ m) : pln m d = true := by
  induction hm with
  | refl => exact h
  | step _ ih => exact pln_up _ _ ih
theorem draw_ix {α : Type} (f : α → D) (l : List α) (φ : Fd) {n : Nat} (m : Int) (hm : m = (n : Int)) (hl : l.length = n) (hn : 0 < n) : ∃ x ∈ l, gIx (.lst (l.map f)) (.int (φ.draw m).1) = some (f x) := by
  subst hm
  obtain ⟨h0, h1⟩ := φ.draw_range (m := (n : Int)) (by omega)
  obtain ⟨k, hk⟩ : ∃ k : Nat, (φ.draw (n : Int)).1 = (k : Int) := ⟨_, (Int.toNat_of_nonneg h0).symm⟩
  rw [hk] at h1 ⊢
  have hkl : k < l.length := by omega
  refine ⟨l[k], List.getElem_mem hkl, gIx_lst ?_⟩
  rw [List.getElem?_map, List.getElem?_eq_getElem hkl]
  rfl
theorem ne_false {α : Type} [DecidableEq α] {f : α → D} {lt : α → α → Bool} {n : Nat} (h : Emb f lt n) (hn : n ≤ 64) (x : α) : gNe (f x) (f x) = some (.bl false) := (h.gNe hn x x).trans (by simp)
theorem ne_len {a b : Nat} (h : a = b) : gNe (.int (a : Int)) (.int (b : Int)) = some (.bl false) := by rw [h]; exact ne_false emb_int (by decide) _
theorem sum_lens (k : Nat) (l : List D) (h : l.length = k) : gLen [.lst l] = some (.int (k : Int)) := by rw [← h]; rfl
end Pf

set_option Elab.async false
set_option linter.all false
set_option maxRecDepth 100000
set_option maxHeartbeats 4000000
namespace Pf
open PySem PySem.Spec PyProof.Rows L2

/-! ## loops and lists that draw -/
theorem draw_at {ρ : En} {φ : Fd} {A : SX} {n : Int} (i : Nat) (h : ρ[i]? = some (some .feed)) (hn : A ρ φ = .ok (.int n) φ) (h0 : 0 < n) (h1 : n < 1073741824) (ht : 0 ≤ φ.told) : eCall drawF (aCons (eVar i) (aCons A aNil)) ρ φ = .ok (.int (φ.draw n).1) (φ.draw n).2 := by
  refine call_ok (two_ok (v_ok h) hn) ?_
  show (if (0 < n ∧ n < 1073741824) ∧ 0 ≤ φ.told then O.ok (D.int (φ.draw n).1) (φ.draw n).2 else .bad) = _
  rw [if_pos ⟨⟨h0, h1⟩, ht⟩]
theorem Fd.step_told {φ : Fd} (h : 0 ≤ φ.told) : 0 ≤ φ.step.told := by
  unfold Fd.step
  split
  · dsimp only
    split
    · show (0 : Int) ≤ ((φ.cells.getD φ.pos.toNat 0).natAbs : Nat); omega
    · exact h
  · exact h
theorem Fd.draw_told {φ : Fd} (h : 0 ≤ φ.told) (n : Int) (hn : 0 ≤ n := by decide) : 0 ≤ (φ.draw n).2.told := by
  have h2 := Fd.step_told h
  unfold Fd.draw
  dsimp only
  split
  · rename_i hh
    exact Int.ediv_nonneg h2 hn
  · exact h2
section
variable {α β : Type} {T : Tg} {tst : SB} {elt : SX}
theorem for_st {B : SS} {e : α → D} (P : List α → En → Fd → Prop) : ∀ (xs pre : List α) {ρ : En} {φ : Fd}, P pre ρ φ → (∀ (pre' : List α) (x : α) (post : List α) (ρ : En) (φ : Fd), pre ++ xs = pre' ++ x :: post → P pre' ρ φ → ∃ ρ1, T (e x) ρ = some ρ1 ∧ ∃ ρ2 φ2, (B ρ1 φ = .nx ρ2 φ2 ∨ B ρ1 φ = .ct ρ2 φ2) ∧ P (pre' ++ [x]) ρ2 φ2) →
    ∃ ρ' φ', forGo T B (xs.map e) ρ φ = .nx ρ' φ' ∧ P (pre ++ xs) ρ' φ'
  | [], pre, ρ, φ, h0, _ => ⟨ρ, φ, rfl, by simpa using h0⟩
  | x :: xs, pre, ρ, φ, h0, hs => by
    obtain ⟨ρ1, h1, ρ2, φ2, h2, h3⟩ := hs pre x xs ρ φ rfl h0
    obtain ⟨ρ', φ', h4, h5⟩ := for_st (B := B) (e := e) P xs (pre ++ [x]) h3 fun pre' y post ρ φ e' hp => hs pre' y post ρ φ (by rw [← e']; simp) hp
    refine ⟨ρ', φ', ?_, by simpa using h5⟩
    rw [List.map_cons]
    unfold forGo
    rw [h1]
    rcases h2 with h2 | h2 <;> simp only [h2] <;> exact h4
theorem lcGo_st (e : α → D) (g : β → D) (R : α → β → Prop) {ρ : En} : ∀ (xs : List α) (φ : Fd), (∀ x ∈ xs, ∀ φ, ∃ ρ1 b φ1, T (e x) ρ = some ρ1 ∧ tst ρ1 φ = .ok b φ1 ∧ (b = true → ∃ z φ2, R x z ∧ elt ρ1 φ1 = .ok (g z) φ2)) →
    ∃ (zs : List β) (φ' : Fd), lcGo T tst elt ρ (xs.map e) φ = .ok (zs.map g) φ' ∧ (∀ z ∈ zs, ∃ x ∈ xs, R x z) ∧ zs.length ≤ xs.length
  | [], φ, _ => ⟨[], φ, rfl, fun z hz => (by cases hz), Nat.le_refl _⟩
  | x :: xs, φ, h => by
    obtain ⟨ρ1, b, φ1, h1, h2, h3⟩ := h x List.mem_cons_self φ
    have hxs : ∀ y ∈ xs, ∀ φ, ∃ ρ1 b φ1, T (e y) ρ = some ρ1 ∧ tst ρ1 φ = .ok b φ1 ∧ (b = true → ∃ z φ2, R y z ∧ elt ρ1 φ1 = .ok (g z) φ2) := fun y hy => h y (List.mem_cons_of_mem _ hy)
    cases b with
    | false =>
      obtain ⟨zs, φ', e1, e2, e3⟩ := lcGo_st e g R xs φ1 hxs
      refine ⟨zs, φ', ?_, fun z hz => ?_, by rw [List.length_cons]; omega⟩
      · rw [List.map_cons]; unfold lcGo; rw [h1]; simp only [h2]; exact e1
      · obtain ⟨y, hy, hr⟩ := e2 z hz
        exact ⟨y, List.mem_cons_of_mem _ hy, hr⟩
    | true =>
      obtain ⟨z, φ2, hr, h4⟩ := h3 rfl
      obtain ⟨zs, φ', e1, e2, e3⟩ := lcGo_st e g R xs φ2 hxs
      refine ⟨z :: zs, φ', ?_, fun u hu => ?_, by rw [List.length_cons, List.length_cons]; omega⟩
      · rw [List.map_cons]; unfold lcGo; rw [h1]; simp only [h2, h4, e1]; rfl
      · rcases List.mem_cons.mp hu with rfl | hu
        · exact ⟨x, List.mem_cons_self, hr⟩
        · obtain ⟨y, hy, hr⟩ := e2 u hu
          exact ⟨y, List.mem_cons_of_mem _ hy, hr⟩
theorem lc_st {I : SA} {vs : List Nat} {ρ : En} {φ φ1 : Fd} (xs : List α) (e : α → D) (g : β → D) (R : α → β → Prop) (hI : I ρ φ1 = .ok (xs.map e) φ) (hl : xs.length ≤ sizeLine)
    (h : ∀ x ∈ xs, ∀ φ, ∃ ρ1 b φ1, T (e x) (wipeE ρ vs) = some ρ1 ∧ tst ρ1 φ = .ok b φ1 ∧ (b = true → ∃ z φ2, R x z ∧ elt ρ1 φ1 = .ok (g z) φ2)) :
    ∃ (zs : List β) (φ' : Fd), eLc I T tst elt vs ρ φ1 = .ok (.lst (zs.map g)) φ' ∧ (∀ z ∈ zs, ∃ x ∈ xs, R x z) ∧ zs.length ≤ xs.length := by
  obtain ⟨zs, φ', e1, e2, e3⟩ := lcGo_st e g R (ρ := wipeE ρ vs) xs φ h
  refine ⟨zs, φ', ?_, e2, e3⟩
  unfold eLc
  rw [hI]
  show (match lcGo T tst elt (wipeE ρ vs) (xs.map e) φ with | .ok ys φ2 => if ys.length ≤ sizeLine then O.ok (D.lst ys) φ2 else .bad | _ => .bad) = _
  rw [e1]
  show (if _ then _ else _) = _
  rw [if_pos (by rw [List.length_map]; omega)]
end
/-! ## the greater of two -/
section
variable {α : Type} [DecidableEq α] {f : α → D} {lt : α → α → Bool} {n : Nat}
theorem Emb.okLt (h : Emb f lt n) (hn : n ≤ 64) (x y : α) : okLt (f x) (f y) = true := by
  unfold Pf.okLt
  rw [h.al, h.shp hn, h.shp hn]
  have : (f x).isNon = false := by
    have := h.nn x
    cases e : f x with
    | non => exact absurd e this
    | _ => rfl
  rw [this]
  rfl
theorem Emb.gMax2D (h : Emb f lt n) (hn : n ≤ 64) (x y : α) : gMax2D [f x, f y] = some (f (if lt x y then y else x)) := by
  show (if _ then _ else _) = _
  rw [h.okLt hn, h.okLt hn, h.shp hn, h.shp hn, h.lt]
  unfold alk2
  rw [h.al, h.al, h.al, h.al]
  cases lt x y <;> rfl
end
/-- the greater of a root and its contrary -/
def gr (x : List Int) : List Int := if ltR x (neg x) then neg x else x
theorem gr_or (x : List Int) : gr x = x ∨ gr x = neg x := by
  unfold gr
  split
  · exact .inr rfl
  · exact .inl rfl
theorem gr_RT {x : List Int} (h : x ∈ RT) : gr x ∈ RT := by
  rcases gr_or x with e | e <;> rw [e]
  · exact h
  · exact neg_RT h
theorem gr_mul {x y : List Int} : mulS (gr x) y = 0 ↔ mulS x y = 0 := by
  rcases gr_or x with e | e <;> rw [e]
  rw [mulS_neg]
  omega
theorem neg_ne {x : List Int} (h : x ∈ RT) : neg x ≠ x := fun e => by
  have := mulS_neg x x
  rw [e, RT_sq h] at this
  cases this
theorem gr_gr {x : List Int} (h : x ∈ RT) : gr (gr x) = gr x := by
  unfold gr
  by_cases e : ltR x (neg x) = true
  · rw [if_pos e, neg_neg, if_neg (by rw [tot_row.asym e]; decide)]
  · rw [if_neg e, if_neg e]
theorem gr_neg {x : List Int} (h : x ∈ RT) : gr (neg x) = gr x := by
  unfold gr
  rw [neg_neg]
  by_cases e : ltR x (neg x) = true
  · rw [if_pos e, if_neg (by rw [tot_row.asym e]; decide)]
  · rw [if_neg e]
    by_cases e2 : ltR (neg x) x = true
    · rw [if_pos e2]
    · exact absurd (tot_row.tri _ _ (by simpa using e) (by simpa using e2)).symm (neg_ne h)
theorem gr_one {x : List Int} (h : x ∈ RT) : (gr x = x ∧ gr (neg x) ≠ neg x) ∨ (gr x ≠ x ∧ gr (neg x) = neg x) := by
  rw [gr_neg h]
  rcases gr_or x with e | e
  · exact .inl ⟨e, by rw [e]; exact (neg_ne h).symm⟩
  · exact .inr ⟨by rw [e]; exact neg_ne h, e⟩
theorem neg_perm : (RT.map neg).Perm RT := by
  refine (List.perm_ext_iff_of_nodup (map_nodup RT_nodup fun a ha b hb e => ?_) RT_nodup).mpr fun x => ⟨fun h => ?_, fun h => ?_⟩
  · rw [← neg_neg a, e, neg_neg]
  · obtain ⟨y, hy, rfl⟩ := List.mem_map.mp h
    exact neg_RT hy
  · exact List.mem_map.mpr ⟨neg x, neg_RT h, neg_neg x⟩
/-- half of what contraries share are greater -/
theorem count_gr {P : List Int → Bool} (h : ∀ x ∈ RT, P (neg x) = P x) : 2 * RT.countP (fun x => decide (gr x = x) && P x) = RT.countP P := by
  have e1 : RT.countP (fun x => decide (gr x = x) && P x) = RT.countP fun x => !decide (gr x = x) && P x := by
    rw [← neg_perm.countP_eq, List.countP_map]
    refine List.countP_congr fun x hx => ?_
    show (decide (gr (neg x) = neg x) && P (neg x)) = true ↔ _
    rw [h x hx]
    rcases gr_one hx with ⟨q1, q2⟩ | ⟨q1, q2⟩ <;> simp [q1, q2]
  have e2 : ∀ l : List (List Int), l.countP P = l.countP (fun x => decide (gr x = x) && P x) + l.countP fun x => !decide (gr x = x) && P x := by
    intro l
    induction l with
    | nil => rfl
    | cons x l ih =>
      rw [List.countP_cons, List.countP_cons, List.countP_cons, ih]
      by_cases q : gr x = x <;> cases P x <;> simp [q] <;> omega
  rw [e2 RT]
  omega
end Pf

set_option Elab.async false
set_option linter.all false
set_option maxRecDepth 100000
set_option maxHeartbeats 4000000
namespace Pf
open PySem PySem.Spec PyProof.Rows L2
theorem f_product {r s : List Int} (φ : Fd) (hr : ∀ x ∈ r, x.natAbs ≤ 1000000) (hl : r.length ≤ 1000) : F_row_product [row r, row s] φ = .ok (.int (dot r s)) φ := by
  refine run_ret (bin_ok (cb1_ok (lcm_ok (r.zip s) _ (fun p => D.int (p.1 * p.2)) (zip_rows (two_ok (v_ok rfl) (v_ok rfl))) (zip_len hl) fun p hp => ⟨_, rfl, bin_ok (v_ok rfl) (v_ok rfl) (gMul_ok' ?_)⟩) ?_) rfl (gDiv_ok (by decide) (by decide)))
  · have := hr p.1 (List.of_mem_zip hp).1
    omega
  · have : (r.zip s).map (fun p => D.int (p.1 * p.2)) = (List.zipWith (fun a b => a * b) r s).map D.int := by
      rw [← zip_map, List.map_map]; rfl
    rw [this]
    exact gSum_ints _
theorem f_even (φ : Fd) : F_even_roots [] φ = .ok (rws EV) φ := by kernel_rfl
theorem f_odd (φ : Fd) : F_odd_roots [] φ = .ok (rws OD) φ := by kernel_rfl
theorem f_roots (φ : Fd) : F_all_roots [] φ = .ok (rws RT) φ := by
  refine run_ret (cb1_ok (bin_ok (call0_ok (f_even φ)) (call0_ok (f_odd φ)) (gAdd_l (by rw [List.length_map, List.length_map, eo_len]; decide))) ?_)
  have : (EV.map row ++ OD.map row) = (EV ++ OD).map row := (List.map_append ..).symm
  rw [this, emb_row.gSorted (by decide), RT_eo_sort]
  rfl
theorem f_with {r : List Int} {p : Int} (φ : Fd) (hr : Rw r) : F_roots_with [row r, .int p] φ = .ok (rws (RT.filter fun s => dot r s == p)) φ := by
  refine run_ret ?_
  rw [lc_ok RT row (fun s => dot r s == p) row (seq_l (call0_ok (f_roots φ))) (size_le (by rw [RT_len]; decide)) fun s hs => ⟨_, rfl, cmp_ok (call_ok (two_ok (v_ok rfl) (v_ok rfl)) (f_product φ hr.2 (by have := hr.1; omega))) (v_ok rfl) (emb_int.gEq (by decide) _ _), fun _ => v_ok rfl⟩]
  rfl
theorem draw_ok {ρ : En} {φ : Fd} {A : SX} {n : Int} (h : ρ[1]? = some (some .feed)) (hn : A ρ φ = .ok (.int n) φ) (h0 : 0 < n) (h1 : n < 1073741824) (ht : 0 ≤ φ.told) : eCall F__law_draw (aCons (eVar 1) (aCons A aNil)) ρ φ = .ok (.int (φ.draw n).1) (φ.draw n).2 := by
  refine call_ok (two_ok (v_ok h) hn) ?_
  show (if (0 < n ∧ n < 1073741824) ∧ 0 ≤ φ.told then O.ok (D.int (φ.draw n).1) (φ.draw n).2 else .bad) = _
  rw [if_pos ⟨⟨h0, h1⟩, ht⟩]
end Pf

set_option Elab.async false
set_option linter.all false
set_option maxRecDepth 100000
set_option maxHeartbeats 4000000
namespace Pf
open PySem PySem.Spec PyProof.Rows L2
/-! evaluation, shared -/
def nrow (P : List Nat) : D := row (P.map fun (k : Nat) => (k : Int))
def rg (a n : Nat) : List Nat := (List.range (n - a)).map fun t => a + t
theorem rg_mem {a n k : Nat} : k ∈ rg a n ↔ a ≤ k ∧ k < n := by
  unfold rg
  rw [List.mem_map]
  constructor
  · rintro ⟨t, ht, rfl⟩
    rw [List.mem_range] at ht
    omega
  · intro h
    exact ⟨k - a, List.mem_range.mpr (by omega), by omega⟩
theorem rg_ok {ρ : En} {φ φ1 : Fd} {S : SA} {a n : Nat} (h : S ρ φ = .ok [.int (a : Int), .int (n : Int)] φ1) (ha : a ≤ 1000000) (hn : n ≤ 1000000) : iRg2 S ρ φ = .ok ((rg a n).map fun (k : Nat) => D.int k) φ1 := by
  rw [rg2_ok h (small62_of ⟨by omega, by omega⟩) (small62_of ⟨by omega, by omega⟩)]
  unfold rg
  rw [List.map_map, show ((n : Int) - (a : Int)).toNat = n - a by omega]
  rfl
theorem rg_len {a n : Nat} : (rg a n).length = n - a := by unfold rg; rw [List.length_map, List.length_range]
def gw (rows : List (List Int)) (k : Nat) : List Int := rows.getD k []
theorem gw_get {rows : List (List Int)} {k : Nat} (h : k < rows.length) : rows[k]? = some (gw rows k) := by
  unfold gw
  rw [List.getD_eq_getElem?_getD, List.getElem?_eq_getElem h]; rfl
theorem gw_mem {rows : List (List Int)} {k : Nat} (h : k < rows.length) : gw rows k ∈ rows := List.mem_of_getElem? (gw_get h)
theorem gIx_rows {rows : List (List Int)} {k : Nat} (h : k < rows.length) : gIx (rws rows) (.int (k : Int)) = some (row (gw rows k)) :=
  gIx_lst (by rw [List.getElem?_map, gw_get h]; rfl)
theorem rows_range (rows : List (List Int)) : (List.range rows.length).map (gw rows) = rows := by
  refine List.ext_getElem? fun i => ?_
  by_cases h : i < rows.length
  · rw [List.getElem?_map, List.getElem?_range h, gw_get h]; rfl
  · rw [List.getElem?_eq_none (by simp; omega), List.getElem?_eq_none (by omega)]
theorem ne_int (a b : Int) : gNe (.int a) (.int b) = some (.bl (!decide (a = b))) := emb_int.gNe (by decide) a b
theorem eq_int (a b : Int) : gEq (.int a) (.int b) = some (.bl (decide (a = b))) := emb_int.gEq (by decide) a b
theorem in_nrow (k : Nat) (P : List Nat) : gIn false (.int (k : Int)) (nrow P) = some (.bl (decide (k ∈ P))) := by
  refine (emb_int.gIn (by decide) false (k : Int) (P.map fun (k : Nat) => (k : Int))).trans ?_
  rw [if_neg (by decide)]
  congr 2
  refine decide_eq_decide.mpr ?_
  rw [List.mem_map]
  constructor
  · rintro ⟨j, hj, e⟩
    have : j = k := by omega
    rw [← this]; exact hj
  · intro h
    exact ⟨k, h, rfl⟩
theorem enum_go : ∀ (rows : List (List Int)) (i : Nat), enumD i (rows.map row) = (List.range rows.length).map fun k => D.tup [.int ((i + k : Nat) : Int), row (gw rows k)]
  | [], _ => rfl
  | r :: rows, i => by
    show D.tup [.int (i : Nat), row r] :: enumD (i + 1) (rows.map row) = _
    rw [enum_go rows (i + 1), List.length_cons, List.range_succ_eq_map, List.map_cons, List.map_map]
    congr 1
    refine List.map_congr_left fun k _ => ?_
    show D.tup [.int ((i + 1 + k : Nat) : Int), row (gw rows k)] = D.tup [.int ((i + (k + 1) : Nat) : Int), row (gw (r :: rows) (k + 1))]
    rw [show i + 1 + k = i + (k + 1) by omega]
    rfl
theorem enum_rows (rows : List (List Int)) : enumD 0 (rows.map row) = (List.range rows.length).map fun (k : Nat) => D.tup [.int (k : Int), row (gw rows k)] := by
  rw [enum_go]
  refine List.map_congr_left fun k _ => ?_
  rw [Nat.zero_add]
section
variable {rows : List (List Int)}
theorem gLen_rows : gLen [rws rows] = some (.int (rows.length : Int)) := sum_lens _ _ (by rw [List.length_map])
end
theorem notin_ints (x : Int) (l : List Int) : gIn true (.int x) (row l) = some (.bl (!decide (x ∈ l))) := (emb_int.gIn (by decide) true x l).trans (by rw [if_pos rfl])
theorem flat_len {α β : Type} {f : α → List β} {k : Nat} : ∀ {l : List α}, (∀ x ∈ l, (f x).length ≤ k) → (l.flatMap f).length ≤ l.length * k
  | [], _ => by simp
  | x :: l, h => by
    rw [List.flatMap_cons, List.length_append, List.length_cons, Nat.succ_mul]
    have h1 := h x List.mem_cons_self
    have h2 := flat_len fun y hy => h y (List.mem_cons_of_mem _ hy)
    omega
theorem flat_sub {α β : Type} {f g : α → List β} : ∀ {l : List α}, (∀ x ∈ l, (f x).Sublist (g x)) → (l.flatMap f).Sublist (l.flatMap g)
  | [], _ => List.Sublist.refl _
  | x :: l, h => by
    rw [List.flatMap_cons, List.flatMap_cons]
    exact (h x List.mem_cons_self).append (flat_sub fun y hy => h y (List.mem_cons_of_mem _ hy))
theorem for_app {α β : Type} {T : Tg} {B : SS} {e : α → D} {φ : Fd} (f : α → List β) (St : List β → En → Prop) : ∀ (xs : List α) (acc : List β) {ρ : En}, St acc ρ → acc.length + (xs.flatMap f).length ≤ 100000 →
    (∀ x ∈ xs, ∀ (acc : List β) (ρ : En), acc.length + (f x).length ≤ 100000 → St acc ρ → ∃ ρ1, T (e x) ρ = some ρ1 ∧ ∃ ρ2, (B ρ1 φ = .nx ρ2 φ ∨ B ρ1 φ = .ct ρ2 φ) ∧ St (acc ++ f x) ρ2) →
    ∃ ρ', forGo T B (xs.map e) ρ φ = .nx ρ' φ ∧ St (acc ++ xs.flatMap f) ρ'
  | [], acc, ρ, h0, _, _ => ⟨ρ, rfl, by simpa using h0⟩
  | x :: xs, acc, ρ, h0, hl, hs => by
    rw [List.flatMap_cons, List.length_append] at hl
    obtain ⟨ρ1, h1, ρ2, h2, h3⟩ := hs x List.mem_cons_self acc ρ (by omega) h0
    obtain ⟨ρ', h4, h5⟩ := for_app (B := B) (e := e) (φ := φ) f St xs (acc ++ f x) h3 (by rw [List.length_append]; omega) fun y hy => hs y (List.mem_cons_of_mem _ hy)
    refine ⟨ρ', ?_, by rw [List.flatMap_cons, ← List.append_assoc]; exact h5⟩
    rw [List.map_cons]
    unfold forGo
    rw [h1]
    rcases h2 with h2 | h2 <;> simp only [h2] <;> exact h4
theorem for_first {α : Type} {T : Tg} {B : SS} {e : α → D} {φ : Fd} (good : α → Bool) (out : α → D) (Inv : En → Prop) : ∀ (xs : List α) {ρ : En}, Inv ρ → (∀ x ∈ xs, ∀ ρ, Inv ρ → ∃ ρ1, T (e x) ρ = some ρ1 ∧ (good x = true → B ρ1 φ = .rt (out x) φ) ∧ (good x = false → ∃ ρ2, (B ρ1 φ = .nx ρ2 φ ∨ B ρ1 φ = .ct ρ2 φ) ∧ Inv ρ2)) →
    (xs.find? good = none → ∃ ρ', forGo T B (xs.map e) ρ φ = .nx ρ' φ ∧ Inv ρ') ∧ (∀ x, xs.find? good = some x → forGo T B (xs.map e) ρ φ = .rt (out x) φ)
  | [], ρ, h0, _ => ⟨fun _ => ⟨ρ, rfl, h0⟩, fun x h => by cases h⟩
  | x :: xs, ρ, h0, hs => by
    obtain ⟨ρ1, h1, h2, h3⟩ := hs x List.mem_cons_self ρ h0
    cases hg : good x with
    | true =>
      rw [List.find?_cons_of_pos hg]
      refine ⟨fun h => (by cases h), fun y hy => ?_⟩
      cases hy
      rw [List.map_cons]; unfold forGo; rw [h1]; simp only [h2 hg]
    | false =>
      rw [List.find?_cons_of_neg (by rw [hg]; decide)]
      obtain ⟨ρ2, h4, h5⟩ := h3 hg
      have ih := for_first (B := B) (e := e) (φ := φ) good out Inv xs h5 fun y hy => hs y (List.mem_cons_of_mem _ hy)
      have step : forGo T B ((x :: xs).map e) ρ φ = forGo T B (xs.map e) ρ2 φ := by
        rw [List.map_cons]
        conv => lhs; unfold forGo
        rw [h1]
        rcases h4 with h4 | h4 <;> simp only [h4]
      rw [step]
      exact ih
theorem ne_bl (a b : Bool) : gNe (.bl a) (.bl b) = some (.bl (!decide (a = b))) := by cases a <;> cases b <;> rfl
theorem eq_bl (a b : Bool) : gEq (.bl a) (.bl b) = some (.bl (decide (a = b))) := by cases a <;> cases b <;> rfl
theorem ne_self {d : D} (h : d.shp = true) : gNe d d = some (.bl false) := by
  unfold gNe
  rw [h]
  have hc : d.py.canLay0 = true := by
    unfold D.shp SeqAt.shaped at h
    rw [Bool.and_eq_true] at h
    exact h.1
  show some (D.bl (!PyData.eqv d.py d.py)) = _
  rw [PySem.SeqAt.eqv_refl d.py hc]
  rfl
theorem all_bls {α : Type} (l : List α) (p : α → Bool) : gAll [.lst (l.map fun a => D.bl (p a))] = some (.bl (l.all p)) := by
  have e : (l.map fun a => D.bl (p a)) = (l.map p).map D.bl := by rw [List.map_map]; rfl
  show (blsOf _).map (fun ns : List Bool => D.bl (ns.all id)) = _
  rw [e, blsOf_map]
  show some (D.bl ((l.map p).all id)) = _
  rw [List.all_map]
  rfl
theorem seq_bk {P Q : SS} {ρ ρ1 : En} {φ φ1 : Fd} (h1 : P ρ φ = .bk ρ1 φ1) : sSeq P Q ρ φ = .bk ρ1 φ1 := by unfold sSeq; rw [h1]; rfl
theorem for_brk {α : Type} {T : Tg} {B : SS} {e : α → D} {φ : Fd} (good : α → Bool) (Inv Out : En → Prop) : ∀ (xs : List α) {ρ : En}, Inv ρ → (∀ x ∈ xs, ∀ ρ, Inv ρ → ∃ ρ1, T (e x) ρ = some ρ1 ∧ (good x = true → ∃ ρ2, B ρ1 φ = .nx ρ2 φ ∧ Inv ρ2) ∧ (good x = false → ∃ ρ2, B ρ1 φ = .bk ρ2 φ ∧ Out ρ2)) →
    ∃ ρ', forGo T B (xs.map e) ρ φ = .nx ρ' φ ∧ (xs.all good = true → Inv ρ') ∧ (xs.all good = false → Out ρ')
  | [], ρ, h0, _ => ⟨ρ, rfl, fun _ => h0, fun h => (by cases h)⟩
  | x :: xs, ρ, h0, hs => by
    obtain ⟨ρ1, h1, h2, h3⟩ := hs x List.mem_cons_self ρ h0
    rw [List.all_cons]
    cases hg : good x with
    | true =>
      obtain ⟨ρ2, h4, h5⟩ := h2 hg
      obtain ⟨ρ', e1, e2⟩ := for_brk (B := B) (e := e) (φ := φ) good Inv Out xs h5 fun y hy => hs y (List.mem_cons_of_mem _ hy)
      refine ⟨ρ', ?_, by simpa using e2⟩
      rw [List.map_cons]
      unfold forGo
      rw [h1]
      simp only [h4]
      exact e1
    | false =>
      obtain ⟨ρ2, h4, h5⟩ := h3 hg
      refine ⟨ρ2, ?_, fun h => (by simp at h), fun _ => h5⟩
      rw [List.map_cons]
      unfold forGo
      rw [h1]
      simp only [h4]
theorem eand_val {A B : SX} {ρ : En} {φ : Fd} {a b : Bool} (ha : A ρ φ = .ok (.bl a) φ) (hb : B ρ φ = .ok (.bl b) φ) : eAnd A B ρ φ = .ok (.bl (a && b)) φ := by
  cases a with
  | true => exact eand_yes ha hb
  | false => exact eand_no ha
end Pf

set_option Elab.async false
set_option linter.all false
set_option maxRecDepth 100000
set_option maxHeartbeats 1000000
namespace Pf
open PySem PySem.Spec PyProof.Rows L2
theorem dot_mirR {g x y : List Int} (hg : g ∈ RT) (hx : x ∈ RT) (hy : y ∈ RT) : dot (mir g x) (mir g y) = dot x y := dot_mir hg (RT_lat hx) (RT_lat hy)
def N1 (r : List Int) : List (List Int) := RT.filter fun x => decide (dot r x = 1)
theorem N1_mem {r x : List Int} : x ∈ N1 r ↔ x ∈ RT ∧ dot r x = 1 := by unfold N1; rw [List.mem_filter, decide_eq_true_eq]
theorem N1_nodup (r : List Int) : (N1 r).Nodup := RT_nodup.filter _
theorem N1_len : ∀ r ∈ RT, (N1 r).length = 56 := by
  have h : ∀ r ∈ RT, RT.countP (fun x => decide (dot r x = 1)) = 56 := root_ind (by decide +kernel) fun g hg r hr q => by
    rw [← q]
    exact (count_mir hg _ _ fun x hx => by rw [dot_mirR hg hr hx]).symm
  intro r hr
  rw [← h r hr, List.countP_eq_length_filter]
  rfl
theorem dot_root {x : List Int} (h : x ∈ RT) : dot x x = 2 := dot_of (RT_lat h) (RT_lat h) (by rw [RT_sq h]; rfl)
theorem less_back : ∀ {r x : List Int}, r.length = x.length → less r (less r x 1) 1 = x
  | [], [], _ => rfl
  | a :: r, b :: x, h => by
    show (a - 1 * (a - 1 * b)) :: less r (less r x 1) 1 = _
    rw [less_back (Nat.succ.inj h)]
    congr 1
    omega
theorem N1_less {r x : List Int} (hr : r ∈ RT) (hx : x ∈ N1 r) : less r x 1 ∈ N1 r ∧ less r (less r x 1) 1 = x ∧ less r x 1 ≠ x := by
  obtain ⟨h1, h2⟩ := N1_mem.mp hx
  have hl : r.length = x.length := by rw [RT_l8 hr, RT_l8 h1]
  have hm : mulS r x = 4 := by rw [(RT_lat hr).dot (RT_lat h1), h2]; rfl
  have hd := (diff_root hr h1 hm).1
  refine ⟨N1_mem.mpr ⟨hd, dot_of (RT_lat hr) (RT_lat hd) ?_⟩, less_back hl, fun e => ?_⟩
  · rw [mulS_less' 1 hl, RT_sq hr, hm]; rfl
  · have := mulS_less (t := x) 1 hl
    rw [e, RT_sq h1, hm] at this
    cases this
def N28 (r : List Int) : List (List Int) := (N1 r).filter fun x => ltR x (less r x 1)
/-- half of those with a property that both of a pair have -/
theorem N28_half {r : List Int} (hr : r ∈ RT) (p : List Int → Bool) (hp : ∀ x ∈ N1 r, p (less r x 1) = p x) : 2 * (N28 r).countP p = (N1 r).countP p := by
  have hq : ((N1 r).map fun x => less r x 1).Perm (N1 r) := by
    refine (List.perm_ext_iff_of_nodup (map_nodup (N1_nodup r) fun a ha b hb e => ?_) (N1_nodup r)).mpr fun y => ⟨fun h => ?_, fun h => ?_⟩
    · rw [← (N1_less hr ha).2.1, e, (N1_less hr hb).2.1]
    · obtain ⟨x, hx, rfl⟩ := List.mem_map.mp h
      exact (N1_less hr hx).1
    · exact List.mem_map.mpr ⟨less r y 1, (N1_less hr h).1, (N1_less hr h).2.1⟩
  have e1 : (N1 r).countP (fun x => p x && ltR x (less r x 1)) = (N1 r).countP fun x => p x && !ltR x (less r x 1) := by
    rw [← hq.countP_eq, List.countP_map]
    refine List.countP_congr fun x hx => ?_
    show (p (less r x 1) && ltR (less r x 1) (less r (less r x 1) 1)) = true ↔ _
    rw [(N1_less hr hx).2.1, hp x hx]
    have : ltR (less r x 1) x = !ltR x (less r x 1) := by
      cases q : ltR x (less r x 1) with
      | true => rw [tot_row.asym q]; rfl
      | false =>
        cases q2 : ltR (less r x 1) x with
        | true => rfl
        | false => exact absurd (tot_row.tri _ _ q2 q) (N1_less hr hx).2.2
    rw [this]
  have e2 : ∀ l : List (List Int), l.countP p = l.countP (fun x => p x && ltR x (less r x 1)) + l.countP fun x => p x && !ltR x (less r x 1) := by
    intro l
    induction l with
    | nil => rfl
    | cons x l ih =>
      rw [List.countP_cons, List.countP_cons, List.countP_cons, ih]
      cases p x <;> cases ltR x (less r x 1) <;> simp <;> omega
  have e3 : (N28 r).countP p = (N1 r).countP fun x => p x && ltR x (less r x 1) := by
    unfold N28
    rw [List.countP_filter]
  have := e2 (N1 r)
  omega
theorem N28_len {r : List Int} (hr : r ∈ RT) : (N28 r).length = 28 := by
  have h := N28_half hr (fun _ => true) fun _ _ => rfl
  have := N1_len r hr
  simp at h
  omega
end Pf

set_option Elab.async false
set_option linter.all false
set_option maxRecDepth 100000
set_option maxHeartbeats 1000000
namespace Pf
open PySem PySem.Spec PyProof.Rows L2

/-! ## so many lines in so small a span -/
theorem quad_nn {x y : List Int} (h : x.length = y.length) (a b : Int) : 0 ≤ a * a * mulS x x - 2 * (a * b) * mulS x y + b * b * mulS y y := by
  have h1 := mulS_nn (less (smul a x) y b)
  have hl : (smul a x).length = y.length := by rw [smul_len, h]
  rw [mulS_less b hl, mulS_less' b hl, mulS_less' b hl, mulS_smul, mulS_smul, mulS_comm x (smul a x), mulS_smul, mulS_comm y (smul a x), mulS_smul] at h1
  grind
theorem cs_ineq {x y : List Int} (h : x.length = y.length) : mulS x y * mulS x y ≤ mulS x x * mulS y y := by
  have hx := mulS_nn x
  have hy := mulS_nn y
  rcases (show mulS y y = 0 ∨ 0 < mulS y y by omega) with h0 | h0
  · have q := quad_nn h 1 (mulS x y * (mulS x x + 1))
    rw [h0] at q ⊢
    generalize mulS x y = P at q ⊢
    generalize mulS x x = X at hx q ⊢
    have hp := sq_nn P
    rcases (show P * P = 0 ∨ 1 ≤ P * P by omega) with hp0 | hp1
    · omega
    · have e : 2 * (1 * (P * (X + 1))) * P = 2 * ((P * P) * (X + 1)) := by grind
      rw [e] at q
      have : 1 * (X + 1) ≤ (P * P) * (X + 1) := Int.mul_le_mul_of_nonneg_right hp1 (by omega)
      omega
  · have q := quad_nn h (mulS y y) (mulS x y)
    generalize mulS x y = P at q ⊢
    generalize mulS x x = X at hx q ⊢
    generalize mulS y y = Y at hy h0 q ⊢
    have e : Y * Y * X - 2 * (Y * P) * P + P * P * Y = Y * (X * Y - P * P) := by grind
    rw [e] at q
    have := Int.nonneg_of_mul_nonneg_right q h0
    omega
theorem zero_of {y : List Int} (h : mulS y y = 0) {x : List Int} (hl : x.length = y.length) : mulS x y = 0 := by
  have q := cs_ineq hl
  rw [h] at q
  have := sq_nn (mulS x y)
  have e : mulS x y * mulS x y = 0 := by omega
  rcases Int.mul_eq_zero.mp e with e | e <;> exact e
/-! ### squares of vectors -/
def ten (u v : List Int) : List Int := u.flatMap fun x => smul x v
theorem ten_cons (a : Int) (u v : List Int) : ten (a :: u) v = smul a v ++ ten u v := by unfold ten; rw [List.flatMap_cons]
theorem ten_len (u v : List Int) : (ten u v).length = u.length * v.length := by
  induction u with
  | nil => simp [ten]
  | cons a u ih => rw [ten_cons, List.length_append, ih, smul_len, List.length_cons, Nat.succ_mul]; omega
theorem mulS_app : ∀ {p p' q q' : List Int}, p.length = p'.length → mulS (p ++ q) (p' ++ q') = mulS p p' + mulS q q'
  | [], [], q, q', _ => by simp [mulS]
  | a :: p, b :: p', q, q', h => by
    rw [List.cons_append, List.cons_append, mulS_cons, mulS_cons, mulS_app (Nat.succ.inj h)]
    omega
theorem mulS_ten : ∀ {u u' v v' : List Int}, u.length = u'.length → v.length = v'.length → mulS (ten u v) (ten u' v') = mulS u u' * mulS v v'
  | [], [], v, v', _, _ => by simp [ten, mulS]
  | a :: u, b :: u', v, v', h, hv => by
    rw [ten_cons, ten_cons, mulS_app (by rw [smul_len, smul_len, hv]), mulS_ten (Nat.succ.inj h) hv, mulS_cons, mulS_smul, mulS_comm v, mulS_smul, mulS_comm v']
    grind
def wsum (l : List (Int × List Int)) : List Int := l.foldr (fun p acc => add (smul p.1 (ten p.2 p.2)) acc) (List.replicate 64 0)
theorem wsum_len : ∀ {l : List (Int × List Int)}, (∀ p ∈ l, p.2.length = 8) → (wsum l).length = 64
  | [], _ => by simp [wsum]
  | p :: l, h => by
    have h8 := h p List.mem_cons_self
    have ih := wsum_len fun q hq => h q (List.mem_cons_of_mem _ hq)
    show (add (smul p.1 (ten p.2 p.2)) (wsum l)).length = 64
    rw [add_len (by rw [smul_len, ten_len, h8, ih]), smul_len, ten_len, h8]
theorem mulS_repl (n : Nat) (t : List Int) : mulS (List.replicate n 0) t = 0 := by
  induction n generalizing t with
  | zero => simp [mulS]
  | succ n ih =>
    cases t with
    | nil => simp [mulS]
    | cons a t => rw [List.replicate_succ, mulS_cons, ih]; omega
theorem mulS_wsum {t : List Int} : ∀ {l : List (Int × List Int)}, (∀ p ∈ l, p.2.length = 8) → mulS (wsum l) t = (l.map fun p => p.1 * mulS (ten p.2 p.2) t).sum
  | [], _ => mulS_repl 64 t
  | p :: l, h => by
    have h8 := h p List.mem_cons_self
    have hq := fun q hq => h q (List.mem_cons_of_mem _ hq)
    show mulS (add (smul p.1 (ten p.2 p.2)) (wsum l)) t = _
    rw [mulS_add (by rw [smul_len, ten_len, h8, wsum_len hq]), mulS_smul, mulS_wsum hq, List.map_cons, List.sum_cons]
theorem wsum_ten {v : List Int} (hv : v.length = 8) {l : List (Int × List Int)} (h : ∀ p ∈ l, p.2.length = 8) : mulS (wsum l) (ten v v) = (l.map fun p => p.1 * (mulS v p.2 * mulS v p.2)).sum := by
  rw [mulS_wsum h]
  congr 1
  refine List.map_congr_left fun p hp => ?_
  rw [mulS_ten (by rw [h p hp, hv]) (by rw [h p hp, hv]), mulS_comm p.2 v]
/-! ### lines at right angles to each other, and what they span -/
abbrev Bs := List (List Int × Int)
structure GS (M : Int) (B : Bs) : Prop where
  pos : 0 < M
  len : ∀ p ∈ B, p.1.length = 8
  nrm : ∀ p ∈ B, p.2 * mulS p.1 p.1 = M
  ort : B.Pairwise fun p q => mulS p.1 q.1 = 0
def pr (B : Bs) (v t : List Int) : Int := (B.map fun p => p.2 * (mulS v p.1 * mulS p.1 t)).sum
structure Sp (M : Int) (B : Bs) (v : List Int) : Prop where
  len : v.length = 8
  eq : ∀ t : List Int, t.length = 8 → M * mulS v t = pr B v t
theorem pr_comm (B : Bs) (v t : List Int) : pr B v t = pr B t v := by
  unfold pr
  congr 1
  refine List.map_congr_left fun p _ => ?_
  rw [mulS_comm v, mulS_comm p.1 t, Int.mul_comm (mulS p.1 v)]
theorem pr_lin (B : Bs) {v w : List Int} (h : v.length = w.length) (a b : Int) (t : List Int) : pr B (less (smul a v) w b) t = a * pr B v t - b * pr B w t := by
  unfold pr
  induction B with
  | nil => simp
  | cons p B ih =>
    rw [List.map_cons, List.sum_cons, List.map_cons, List.sum_cons, List.map_cons, List.sum_cons, ih, mulS_less b (by rw [smul_len, h]), mulS_smul]
    grind
theorem Sp.back {M : Int} {B : Bs} {v w : List Int} {a b : Int} (ha : a ≠ 0) (hv : v.length = 8) (hw : Sp M B w) (h : Sp M B (less (smul a v) w b)) : Sp M B v := by
  refine ⟨hv, fun t ht => ?_⟩
  have h1 := h.eq t ht
  have h2 := hw.eq t ht
  have hl : v.length = w.length := by rw [hv, hw.len]
  rw [pr_lin B hl, mulS_less b (by rw [smul_len, hl]), mulS_smul] at h1
  have e : a * (M * mulS v t) = a * pr B v t := by grind
  exact Int.eq_of_mul_eq_mul_left ha e
theorem Sp.lin {M : Int} {B : Bs} {v w : List Int} {a b : Int} (hv : Sp M B v) (hw : Sp M B w) : Sp M B (less (smul a v) w b) := by
  have hl : v.length = w.length := by rw [hv.len, hw.len]
  refine ⟨by rw [less_len (by rw [smul_len, hl]), smul_len, hv.len], fun t ht => ?_⟩
  have h1 := hv.eq t ht
  have h2 := hw.eq t ht
  rw [pr_lin B hl, mulS_less b (by rw [smul_len, hl]), mulS_smul]
  grind
theorem sum_zero {α : Type} {f : α → Int} : ∀ {l : List α}, (∀ x ∈ l, f x = 0) → (l.map f).sum = 0
  | [], _ => rfl
  | x :: l, h => by
    rw [List.map_cons, List.sum_cons, h x List.mem_cons_self, sum_zero fun y hy => h y (List.mem_cons_of_mem _ hy)]
    rfl
theorem pr_self {M : Int} : ∀ {B : Bs}, (∀ p ∈ B, p.2 * mulS p.1 p.1 = M) → (B.Pairwise fun p q => mulS p.1 q.1 = 0) → ∀ p ∈ B, ∀ t, pr B p.1 t = M * mulS p.1 t
  | q :: B, hn, ho, p, hp, t => by
    obtain ⟨o1, o2⟩ := List.pairwise_cons.mp ho
    show q.2 * (mulS p.1 q.1 * mulS q.1 t) + pr B p.1 t = _
    rcases List.mem_cons.mp hp with rfl | hp
    · have z : pr B p.1 t = 0 := sum_zero fun r hr => by rw [o1 r hr]; simp
      rw [z, ← hn p List.mem_cons_self]
      grind
    · rw [pr_self (fun r hr => hn r (List.mem_cons_of_mem _ hr)) o2 p hp t, mulS_comm p.1 q.1, o1 p hp]
      simp
def prv (B : Bs) (v : List Int) : List Int := B.foldr (fun p acc => add (smul (p.2 * mulS v p.1) p.1) acc) (List.replicate 8 0)
theorem prv_len (v : List Int) : ∀ {B : Bs}, (∀ p ∈ B, p.1.length = 8) → (prv B v).length = 8
  | [], _ => by simp [prv]
  | p :: B, h => by
    have h8 := h p List.mem_cons_self
    have ih := prv_len v fun q hq => h q (List.mem_cons_of_mem _ hq)
    show (add (smul (p.2 * mulS v p.1) p.1) (prv B v)).length = 8
    rw [add_len (by rw [smul_len, h8, ih]), smul_len, h8]
theorem mulS_prv (v : List Int) {t : List Int} : ∀ {B : Bs}, (∀ p ∈ B, p.1.length = 8) → mulS (prv B v) t = pr B v t
  | [], _ => mulS_repl 8 t
  | p :: B, h => by
    have h8 := h p List.mem_cons_self
    have hq := fun q hq => h q (List.mem_cons_of_mem _ hq)
    show mulS (add (smul (p.2 * mulS v p.1) p.1) (prv B v)) t = p.2 * (mulS v p.1 * mulS p.1 t) + pr B v t
    rw [mulS_add (by rw [smul_len, prv_len v hq, h8]), mulS_smul, mulS_prv v hq, Int.mul_assoc]
theorem pr_scale (B : Bs) (n : Int) (v t : List Int) : pr (B.map fun p => (p.1, p.2 * n)) v t = n * pr B v t := by
  unfold pr
  rw [List.map_map]
  induction B with
  | nil => simp
  | cons p B ih =>
    rw [List.map_cons, List.sum_cons, List.map_cons, List.sum_cons, ih]
    show p.2 * n * (mulS v p.1 * mulS p.1 t) + _ = _
    grind
theorem gs_step {M : Int} {B : Bs} (G : GS M B) {w : List Int} (hw : w.length = 8) : ∃ M' B', GS M' B' ∧ B'.length ≤ B.length + 1 ∧ Sp M' B' w ∧ ∀ v, Sp M B v → Sp M' B' v := by
  have hm := prv_len w G.len
  have hl : (smul M w).length = (prv B w).length := by rw [smul_len, hw, hm]
  obtain ⟨w', hw'⟩ : ∃ w', w' = less (smul M w) (prv B w) 1 := ⟨_, rfl⟩
  have l' : w'.length = 8 := by rw [hw', less_len hl, smul_len, hw]
  have e' : ∀ t, mulS w' t = M * mulS w t - pr B w t := fun t => by rw [hw', mulS_less 1 hl, mulS_smul, mulS_prv w G.len]; omega
  have ob : ∀ p ∈ B, mulS w' p.1 = 0 := fun p hp => by
    rw [e', pr_comm, pr_self G.nrm G.ort p hp, mulS_comm w]
    omega
  by_cases h0 : mulS w' w' = 0
  · refine ⟨M, B, G, Nat.le_succ _, ⟨hw, fun t ht => ?_⟩, fun v hv => hv⟩
    have z := zero_of h0 (x := t) (by rw [ht, l'])
    rw [mulS_comm, e'] at z
    omega
  · have n0 := mulS_nn w'
    obtain ⟨n, hn⟩ : ∃ n, n = mulS w' w' := ⟨_, rfl⟩
    have np : 0 < n := by omega
    have en : n = M * mulS w w' := by
      have z : pr B w w' = 0 := sum_zero fun p hp => by rw [mulS_comm p.1 w', ob p hp]; simp
      have := e' w'
      rw [z] at this
      omega
    refine ⟨M * n, (w', M) :: B.map (fun p => (p.1, p.2 * n)), ⟨Int.mul_pos G.pos np, ?_, ?_, ?_⟩, by simp, ⟨hw, fun t ht => ?_⟩, fun v hv => ⟨hv.len, fun t ht => ?_⟩⟩
    · intro p hp
      rcases List.mem_cons.mp hp with rfl | hp
      · exact l'
      · obtain ⟨q, hq, rfl⟩ := List.mem_map.mp hp
        exact G.len q hq
    · intro p hp
      rcases List.mem_cons.mp hp with rfl | hp
      · show M * mulS w' w' = _
        rw [hn]
      · obtain ⟨q, hq, rfl⟩ := List.mem_map.mp hp
        show q.2 * n * mulS q.1 q.1 = _
        rw [← G.nrm q hq]
        grind
    · refine List.pairwise_cons.mpr ⟨fun p hp => ?_, List.pairwise_map.mpr G.ort⟩
      obtain ⟨q, hq, rfl⟩ := List.mem_map.mp hp
      exact ob q hq
    · show _ = M * (mulS w w' * mulS w' t) + pr (B.map fun p => (p.1, p.2 * n)) w t
      rw [pr_scale, e' t]
      grind
    · show _ = M * (mulS v w' * mulS w' t) + pr (B.map fun p => (p.1, p.2 * n)) v t
      have hv2 := hv.eq w hw
      have z : mulS v w' = 0 := by
        rw [mulS_comm, e', pr_comm, ← hv2, mulS_comm w v]
        omega
      rw [pr_scale, z, ← hv.eq t ht]
      grind
theorem gs_ex : ∀ (W : List (List Int)), (∀ w ∈ W, w.length = 8) → ∃ M B, GS M B ∧ B.length ≤ W.length ∧ ∀ w ∈ W, Sp M B w
  | [], _ => ⟨1, [], ⟨by decide, fun _ h => (by cases h), fun _ h => (by cases h), .nil⟩, Nat.le_refl _, fun _ h => (by cases h)⟩
  | w :: W, h => by
    obtain ⟨M, B, G, hl, hS⟩ := gs_ex W fun v hv => h v (List.mem_cons_of_mem _ hv)
    obtain ⟨M', B', G', hl', h1, h2⟩ := gs_step G (h w List.mem_cons_self)
    refine ⟨M', B', G', by rw [List.length_cons]; omega, fun v hv => ?_⟩
    rcases List.mem_cons.mp hv with rfl | hv
    · exact h1
    · exact h2 v (hS v hv)
/-- lines of square 24 with products 8 and -8 in what B spans -/
theorem lines_le {M : Int} {B : Bs} (G : GS M B) {S : List (List Int)} (h1 : ∀ v ∈ S, Sp M B v ∧ mulS v v = 24) (h2 : S.Pairwise fun u v => mulS u v * mulS u v = 64) : 9 * (S.length * S.length) ≤ (8 * S.length + S.length * S.length) * B.length := by
  have TT : ∀ S : List (List Int), (∀ v ∈ S, v.length = 8 ∧ mulS v v = 24) → (S.Pairwise fun u v => mulS u v * mulS u v = 64) → mulS (wsum (S.map fun v => (1, v))) (wsum (S.map fun v => (1, v))) = 512 * (S.length : Int) + 64 * ((S.length : Int) * (S.length : Int)) := by
    intro S
    induction S with
    | nil => intro _ _; exact mulS_repl 64 _
    | cons v S ih =>
      intro hv ho
      obtain ⟨o1, o2⟩ := List.pairwise_cons.mp ho
      have v8 := hv v List.mem_cons_self
      have hq := fun u hu => hv u (List.mem_cons_of_mem _ hu)
      have hS : ∀ p ∈ S.map (fun v => ((1 : Int), v)), p.2.length = 8 := fun p hp => by
        obtain ⟨u, hu, rfl⟩ := List.mem_map.mp hp
        exact (hq u hu).1
      have l1 : (smul 1 (ten v v)).length = (wsum (S.map fun v => ((1 : Int), v))).length := by rw [smul_len, ten_len, v8.1, wsum_len hS]
      show mulS (add (smul 1 (ten v v)) (wsum (S.map fun v => (1, v)))) (add (smul 1 (ten v v)) (wsum (S.map fun v => (1, v)))) = _
      have c1 : mulS (wsum (S.map fun v => ((1 : Int), v))) (ten v v) = 64 * (S.length : Int) := by
        rw [wsum_ten v8.1 hS, List.map_map]
        have : ∀ l : List (List Int), (∀ u ∈ l, mulS v u * mulS v u = 64) → (l.map ((fun p : Int × List Int => p.1 * (mulS v p.2 * mulS v p.2)) ∘ fun v => ((1 : Int), v))).sum = 64 * (l.length : Int) := by
          intro l
          induction l with
          | nil => intro _; rfl
          | cons u l ihl =>
            intro hu
            rw [List.map_cons, List.sum_cons, ihl fun y hy => hu y (List.mem_cons_of_mem _ hy)]
            show 1 * (mulS v u * mulS v u) + _ = _
            rw [hu u List.mem_cons_self, List.length_cons]
            omega
        exact this S o1
      rw [mulS_add l1, mulS_smul, mulS_comm (ten v v), mulS_add l1, mulS_smul, mulS_ten rfl rfl, v8.2, mulS_comm (wsum _) (add _ _), mulS_add l1, mulS_smul, mulS_comm (ten v v) (wsum _), c1, ih hq o2, List.length_cons, Int.natCast_add]
      grind
  have QQ : ∀ B : Bs, (∀ p ∈ B, p.1.length = 8) → (∀ p ∈ B, p.2 * mulS p.1 p.1 = M) → (B.Pairwise fun p q => mulS p.1 q.1 = 0) → mulS (wsum (B.map fun p => (p.2, p.1))) (wsum (B.map fun p => (p.2, p.1))) = (B.length : Int) * (M * M) := by
    intro B
    induction B with
    | nil => intro _ _ _; rw [List.length_nil]; exact (mulS_repl 64 _).trans (by simp)
    | cons p B ih =>
      intro hl hn ho
      obtain ⟨o1, o2⟩ := List.pairwise_cons.mp ho
      have p8 := hl p List.mem_cons_self
      have pn := hn p List.mem_cons_self
      have hB : ∀ q ∈ B.map (fun p => (p.2, p.1)), q.2.length = 8 := fun q hq => by
        obtain ⟨u, hu, rfl⟩ := List.mem_map.mp hq
        exact hl u (List.mem_cons_of_mem _ hu)
      have l1 : (smul p.2 (ten p.1 p.1)).length = (wsum (B.map fun p => (p.2, p.1))).length := by rw [smul_len, ten_len, p8, wsum_len hB]
      show mulS (add (smul p.2 (ten p.1 p.1)) (wsum (B.map fun p => (p.2, p.1)))) (add (smul p.2 (ten p.1 p.1)) (wsum (B.map fun p => (p.2, p.1)))) = _
      have c1 : mulS (wsum (B.map fun p => (p.2, p.1))) (ten p.1 p.1) = 0 := by
        rw [wsum_ten p8 hB, List.map_map]
        refine sum_zero fun q hq => ?_
        show q.2 * (mulS p.1 q.1 * mulS p.1 q.1) = 0
        rw [o1 q hq]
        simp
      rw [mulS_add l1, mulS_smul, mulS_comm (ten p.1 p.1), mulS_add l1, mulS_smul, mulS_ten rfl rfl, mulS_comm (wsum _) (add _ _), mulS_add l1, mulS_smul, mulS_comm (ten p.1 p.1) (wsum _), c1, ih (fun q hq => hl q (List.mem_cons_of_mem _ hq)) (fun q hq => hn q (List.mem_cons_of_mem _ hq)) o2, List.length_cons, Int.natCast_add]
      rw [← pn]
      grind
  have hB : ∀ q ∈ B.map (fun p => (p.2, p.1)), q.2.length = 8 := fun q hq => by
    obtain ⟨u, hu, rfl⟩ := List.mem_map.mp hq
    exact G.len u hu
  have hS : ∀ p ∈ S.map (fun v => ((1 : Int), v)), p.2.length = 8 := fun p hp => by
    obtain ⟨u, hu, rfl⟩ := List.mem_map.mp hp
    exact (h1 u hu).1.len
  have TQ : mulS (wsum (S.map fun v => ((1 : Int), v))) (wsum (B.map fun p => (p.2, p.1))) = 24 * (S.length : Int) * M := by
    rw [mulS_wsum hS, List.map_map]
    have : ∀ l : List (List Int), (∀ u ∈ l, Sp M B u ∧ mulS u u = 24) → (l.map ((fun p : Int × List Int => p.1 * mulS (ten p.2 p.2) (wsum (B.map fun p => (p.2, p.1)))) ∘ fun v => ((1 : Int), v))).sum = 24 * (l.length : Int) * M := by
      intro l
      induction l with
      | nil => intro _; simp
      | cons u l ihl =>
        intro hu
        obtain ⟨s1, s2⟩ := hu u List.mem_cons_self
        rw [List.map_cons, List.sum_cons, ihl fun y hy => hu y (List.mem_cons_of_mem _ hy), List.length_cons, Int.natCast_add]
        show 1 * mulS (ten u u) (wsum (B.map fun p => (p.2, p.1))) + _ = _
        rw [mulS_comm, wsum_ten s1.len hB, List.map_map]
        have e := s1.eq u s1.len
        have e2 : pr B u u = (B.map ((fun p : Int × List Int => p.1 * (mulS u p.2 * mulS u p.2)) ∘ fun p => (p.2, p.1))).sum := by
          unfold pr
          congr 1
          refine List.map_congr_left fun p _ => ?_
          show p.2 * (mulS u p.1 * mulS p.1 u) = p.2 * (mulS u p.1 * mulS u p.1)
          rw [mulS_comm p.1 u]
        rw [← e2, ← e, s2]
        grind
    exact this S h1
  have cs := cs_ineq (x := wsum (S.map fun v => ((1 : Int), v))) (y := wsum (B.map fun p => (p.2, p.1))) (by rw [wsum_len hS, wsum_len hB])
  rw [TQ, TT S (fun v hv => ⟨(h1 v hv).1.len, (h1 v hv).2⟩) h2, QQ B G.len G.nrm G.ort] at cs
  have mp : 0 < M * M := Int.mul_pos G.pos G.pos
  have e : (64 * (M * M)) * (9 * ((S.length : Int) * S.length)) ≤ (64 * (M * M)) * ((8 * (S.length : Int) + S.length * S.length) * B.length) := by grind
  have e2 := Int.le_of_mul_le_mul_left e (by omega)
  have e3 : ((9 * (S.length * S.length) : Nat) : Int) ≤ (((8 * S.length + S.length * S.length) * B.length : Nat) : Int) := by push_cast; exact e2
  exact Int.ofNat_le.mp e3
/-- the most lines of a span -/
def mostL (r : Nat) : Nat := [0, 1, 2, 4, 6, 10, 16, 28].getD r 0
theorem most_of {N b r : Nat} (h : 9 * (N * N) ≤ (8 * N + N * N) * b) (hb : b ≤ r) (hr : r ≤ 7) : N ≤ mostL r := by
  rcases Nat.eq_zero_or_pos N with rfl | hN
  · exact Nat.zero_le _
  · have h2 : N * (9 * N) ≤ N * ((8 + N) * r) := by
      have : (8 * N + N * N) * b ≤ (8 * N + N * N) * r := Nat.mul_le_mul_left _ hb
      have e : N * ((8 + N) * r) = (8 * N + N * N) * r := by grind
      have e2 : N * (9 * N) = 9 * (N * N) := by grind
      omega
    have h3 := Nat.le_of_mul_le_mul_left h2 hN
    have : r = 0 ∨ r = 1 ∨ r = 2 ∨ r = 3 ∨ r = 4 ∨ r = 5 ∨ r = 6 ∨ r = 7 := by omega
    rcases this with rfl | rfl | rfl | rfl | rfl | rfl | rfl | rfl
    · show N ≤ 0; omega
    · show N ≤ 1; omega
    · show N ≤ 2; omega
    · show N ≤ 4; omega
    · show N ≤ 6; omega
    · show N ≤ 10; omega
    · show N ≤ 16; omega
    · show N ≤ 28; omega
end Pf

set_option Elab.async false
set_option linter.all false
set_option maxRecDepth 100000
set_option maxHeartbeats 1000000
namespace Pf
open PySem PySem.Spec PyProof.Rows L2

/-! ## roots chosen one after the other, with told products -/
def fit (A : List (List Int)) (W : List Int) : List (List Int) := RT.filter fun x => decide (A.map (dot x) = W)
theorem fit_mem {A : List (List Int)} {W : List Int} {x : List Int} : x ∈ fit A W ↔ x ∈ RT ∧ A.map (dot x) = W := by unfold fit; rw [List.mem_filter, decide_eq_true_eq]
theorem fit_mir {A : List (List Int)} {W : List Int} {g x : List Int} (hA : ∀ a ∈ A, a ∈ RT) (hg : g ∈ RT) (h : x ∈ fit A W) : mir g x ∈ fit (A.map (mir g)) W := by
  obtain ⟨h1, h2⟩ := fit_mem.mp h
  refine fit_mem.mpr ⟨mir_RT hg h1, ?_⟩
  rw [List.map_map, ← h2]
  exact List.map_congr_left fun a ha => dot_mirR hg h1 (hA a ha)
theorem map_at {α β : Type} {f g : α → β} : ∀ {l : List α}, l.map f = l.map g → ∀ a ∈ l, f a = g a
  | [], _, a, h => by cases h
  | x :: l, e, a, h => by
    rw [List.map_cons, List.map_cons] at e
    injection e with e1 e2
    rcases List.mem_cons.mp h with rfl | h
    · exact e1
    · exact map_at e2 a h
def Stb (Q : List (List Int) → Prop) : Prop := ∀ g ∈ RT, ∀ l : List (List Int), (∀ a ∈ l, a ∈ RT) → Q (l.map (mir g)) → Q l
/-- what mirrors keep, from some lists to all of a kind -/
structure Tr (bs : List (List (List Int))) (C : List (List Int) → Prop) : Prop where
  go : ∀ Q : List (List Int) → Prop, Stb Q → (∀ b ∈ bs, Q b) → ∀ l, C l → Q l
  rt : ∀ l, C l → ∀ a ∈ l, a ∈ RT
  br : ∀ b ∈ bs, ∀ a ∈ b, a ∈ RT
def nx (C : List (List Int) → Prop) (W : List Int) : List (List Int) → Prop := fun l => ∃ l0 x, C l0 ∧ x ∈ fit l0 W ∧ l = l0 ++ [x]
theorem tr_root : Tr [[r0]] fun l => ∃ r ∈ RT, l = [r] := by
  refine ⟨fun Q hQ hb l ⟨r, hr, e⟩ => ?_, fun l ⟨r, hr, e⟩ a ha => ?_, fun b hb a ha => ?_⟩
  · rw [e]
    exact root_ind (Q := fun r => Q [r]) (hb _ (by simp)) (fun g hg r hr q => hQ g hg [r] (by simpa using hr) q) r hr
  · rw [e] at ha
    rw [List.mem_singleton.mp ha]; exact hr
  · rw [List.mem_singleton.mp hb] at ha
    rw [List.mem_singleton.mp ha]; exact r0_in
theorem tr_up {bs bs' : List (List (List Int))} {C : List (List Int) → Prop} {W : List Int} (T : Tr bs C) (hb : ∀ b ∈ bs', ∃ b0 ∈ bs, ∃ x ∈ fit b0 W, b = b0 ++ [x])
    (h : ∀ Q : List (List Int) → Prop, Stb Q → (∀ b ∈ bs', Q b) → ∀ b ∈ bs, ∀ x ∈ fit b W, Q (b ++ [x])) : Tr bs' (nx C W) := by
  refine ⟨fun Q hQ hb' l ⟨l0, x, h1, h2, e⟩ => ?_, fun l ⟨l0, x, h1, h2, e⟩ a ha => ?_, fun b hb' a ha => ?_⟩
  · rw [e]
    refine T.go (fun l => (∀ a ∈ l, a ∈ RT) → ∀ x ∈ fit l W, Q (l ++ [x])) (fun g hg l hl q ha x hx => ?_) (fun b hb1 _ x hx => h Q hQ hb' b hb1 x hx) l0 h1 (T.rt l0 h1) x h2
    have hx1 := (fit_mem.mp hx).1
    have := q (fun a ha' => by
      obtain ⟨c, hc, rfl⟩ := List.mem_map.mp ha'
      exact mir_RT hg (ha c hc)) _ (fit_mir ha hg hx)
    refine hQ g hg (l ++ [x]) (fun a ha' => ?_) (by rw [List.map_append]; exact this)
    rcases List.mem_append.mp ha' with q | q
    · exact ha a q
    · rw [List.mem_singleton.mp q]; exact hx1
  · rw [e] at ha
    rcases List.mem_append.mp ha with q | q
    · exact T.rt l0 h1 a q
    · rw [List.mem_singleton.mp q]; exact (fit_mem.mp h2).1
  · obtain ⟨b0, hb0, x, hx, rfl⟩ := hb b hb'
    rcases List.mem_append.mp ha with q | q
    · exact T.br b0 hb0 a q
    · rw [List.mem_singleton.mp q]; exact (fit_mem.mp hx).1
/-- one list, and all next ones come from one -/
theorem tr_lev {b : List (List Int)} {C : List (List Int) → Prop} {W : List Int} {s0 : List Int} (T : Tr [b] C) (hs : s0 ∈ fit b W)
    (hc : (fit b W).all (fun r => (lev (fit b W) s0 2).contains r || (lev (fit b W) s0 1).contains r || (lev (fit b W) s0 3).contains r || r == s0) = true) : Tr [b ++ [s0]] (nx C W) := by
  have hb := T.br b (by simp)
  refine tr_up T (fun b' hb' => ⟨b, by simp, s0, hs, List.mem_singleton.mp hb'⟩) fun Q hQ h b' hb' x hx => ?_
  rw [List.mem_singleton.mp hb'] at hx ⊢
  refine lev_all (Q := fun x => Q (b ++ [x])) hc hs (h _ (by simp)) (fun s hs k hk e q => ?_) x hx
  obtain ⟨s1, s2⟩ := fit_mem.mp hs
  obtain ⟨k1, k2⟩ := fit_mem.mp hk
  obtain ⟨g1, g2⟩ := diff_root s1 k1 e
  have fx : ∀ a ∈ b, mir (less s k 1) a = a := fun a ha => by
    refine mir_fix g1 (RT_lat (hb a ha)) ?_
    have e2 := map_at (s2.trans k2.symm) a ha
    rw [mulS_less 1 (by rw [RT_l8 s1, RT_l8 k1]), (RT_lat s1).dot (RT_lat (hb a ha)), (RT_lat k1).dot (RT_lat (hb a ha)), e2]
    omega
  refine hQ _ g1 (b ++ [s]) (fun a ha => ?_) ?_
  · rcases List.mem_append.mp ha with q | q
    · exact hb a q
    · rw [List.mem_singleton.mp q]; exact s1
  · have e3 : b.map (mir (less s k 1)) = b := by
      have : b.map (mir (less s k 1)) = b.map id := List.map_congr_left fun a ha => fx a ha
      rw [this, List.map_id]
    rw [List.map_append, List.map_singleton, e3, g2]
    exact q
theorem tr_all {bs : List (List (List Int))} {C : List (List Int) → Prop} {W : List Int} (T : Tr bs C) : Tr (bs.flatMap fun b => (fit b W).map fun x => b ++ [x]) (nx C W) := by
  refine tr_up T (fun b hb => ?_) fun Q hQ h b hb x hx => h _ (List.mem_flatMap.mpr ⟨b, hb, List.mem_map.mpr ⟨x, hx, rfl⟩⟩)
  obtain ⟨b0, h0, h1⟩ := List.mem_flatMap.mp hb
  obtain ⟨x, hx, rfl⟩ := List.mem_map.mp h1
  exact ⟨b0, h0, x, hx, rfl⟩
def e1 : List Int := [-2, 2, 0, 0, 0, 0, 0, 0]
def e2 : List Int := [1, -1, -1, -1, -1, -1, -1, 1]
def e3 : List Int := [0, 0, 0, 0, 0, 0, 2, -2]
def e4 : List Int := [0, 0, 0, 0, 2, 2, 0, 0]
def C0 : List (List Int) → Prop := fun l => ∃ r ∈ RT, l = [r]
def C1 := nx C0 [0]
def C2 := nx C1 [0, -1]
def C3 := nx C2 [0, 0, -1]
def C4 := nx C3 [0, 0, -1, 0]
def C5 := nx C4 [0, 0, 0, -1, 0]
def C6 := nx C5 [0, -1, 0, 0, 0, 0]
theorem t1 : Tr [[r0, e1]] C1 := tr_lev (s0 := e1) tr_root (by decide +kernel) (by decide +kernel)
theorem t2 : Tr [[r0, e1, e2]] C2 := tr_lev (s0 := e2) t1 (by decide +kernel) (by decide +kernel)
theorem t3 : Tr [[r0, e1, e2, e3]] C3 := tr_lev (s0 := e3) t2 (by decide +kernel) (by decide +kernel)
theorem t4 : Tr [[r0, e1, e2, e3, e4]] C4 := tr_lev (s0 := e4) t3 (by decide +kernel) (by decide +kernel)
def b5 : List (List (List Int)) := [[r0, e1, e2, e3, e4]].flatMap fun b => (fit b [0, 0, 0, -1, 0]).map fun x => b ++ [x]
def b6 : List (List (List Int)) := b5.flatMap fun b => (fit b [0, -1, 0, 0, 0, 0]).map fun x => b ++ [x]
theorem t5 : Tr b5 C5 := tr_all t4
theorem t6 : Tr b6 C6 := tr_all t5
/-- how many of the lines have product 0 with all chosen ones; twice that -/
def frb (l : List (List Int)) (x : List Int) : Bool := decide (dot (l.headD []) x = 1) && (l.drop 1).all fun c => decide (dot x c = 0)
def fr2 (l : List (List Int)) : Nat := RT.countP (frb l)
theorem fr2_mir {g : List Int} (hg : g ∈ RT) {l : List (List Int)} (hl : ∀ a ∈ l, a ∈ RT) (hne : l ≠ []) : fr2 (l.map (mir g)) = fr2 l := by
  unfold fr2
  refine count_mir hg _ _ fun x hx => ?_
  cases l with
  | nil => exact absurd rfl hne
  | cons r l =>
    show (decide (dot (mir g r) (mir g x) = 1) && (l.map (mir g)).all fun c => decide (dot (mir g x) c = 0)) = (decide (dot r x = 1) && l.all fun c => decide (dot x c = 0))
    rw [dot_mirR hg (hl r (by simp)) hx, List.all_map]
    congr 1
    rw [Bool.eq_iff_iff, List.all_eq_true, List.all_eq_true]
    constructor
    · intro h c hc
      have := h c hc
      show decide (dot x c = 0) = true
      have e : dot (mir g x) (mir g c) = dot x c := dot_mirR hg hx (hl c (List.mem_cons_of_mem _ hc))
      rw [← e]
      exact this
    · intro h c hc
      have := h c hc
      show decide (dot (mir g x) (mir g c) = 0) = true
      rw [dot_mirR hg hx (hl c (List.mem_cons_of_mem _ hc))]
      exact this
theorem fit_mir_ne {A : List (List Int)} {W : List Int} {g : List Int} (hA : ∀ a ∈ A, a ∈ RT) (hg : g ∈ RT) (h : fit (A.map (mir g)) W ≠ []) : fit A W ≠ [] := by
  obtain ⟨x, r, e⟩ := List.exists_cons_of_ne_nil h
  have hx : x ∈ fit (A.map (mir g)) W := by rw [e]; simp
  have h2 := fit_mir (g := g) (fun a ha => by
    obtain ⟨c, hc, rfl⟩ := List.mem_map.mp ha
    exact mir_RT hg (hA c hc)) hg hx
  have e2 : (A.map (mir g)).map (mir g) = A := by
    rw [List.map_map]
    have : A.map (mir g ∘ mir g) = A.map id := List.map_congr_left fun a ha => mir_mir hg (RT_lat (hA a ha))
    rw [this, List.map_id]
  rw [e2] at h2
  intro q
  rw [q] at h2
  cases h2
/-- so many are free, and there is a next one -/
def Qk (m : Nat) (W : List Int) (l : List (List Int)) : Prop := l ≠ [] → fr2 l = m ∧ fit l W ≠ []
theorem Qk_stb (m : Nat) (W : List Int) : Stb (Qk m W) := fun g hg l hl q hne => by
  obtain ⟨h1, h2⟩ := q (by simpa using hne)
  exact ⟨by rw [← fr2_mir hg hl hne]; exact h1, fit_mir_ne hl hg h2⟩
def qkB (m : Nat) (W : List Int) (l : List (List Int)) : Bool := decide (fr2 l = m) && !(fit l W).isEmpty
theorem Qk_of {m : Nat} {W : List Int} {l : List (List Int)} (h : qkB m W l = true) : Qk m W l := fun _ => by
  unfold qkB at h
  rw [Bool.and_eq_true, decide_eq_true_eq] at h
  refine ⟨h.1, fun e => ?_⟩
  rw [e] at h
  exact absurd h.2 (by decide)
theorem q0 : ∀ l, C0 l → Qk 56 [0] l := tr_root.go _ (Qk_stb _ _) fun b hb => Qk_of (List.all_eq_true.mp (show ([[r0]] : List _).all (qkB 56 [0]) = true by decide +kernel) b hb)
theorem q1 : ∀ l, C1 l → Qk 32 [0, -1] l := t1.go _ (Qk_stb _ _) fun b hb => Qk_of (List.all_eq_true.mp (show ([[r0, e1]] : List _).all (qkB 32 [0, -1]) = true by decide +kernel) b hb)
theorem q2 : ∀ l, C2 l → Qk 20 [0, 0, -1] l := t2.go _ (Qk_stb _ _) fun b hb => Qk_of (List.all_eq_true.mp (show ([[r0, e1, e2]] : List _).all (qkB 20 [0, 0, -1]) = true by decide +kernel) b hb)
theorem q3 : ∀ l, C3 l → Qk 12 [0, 0, -1, 0] l := t3.go _ (Qk_stb _ _) fun b hb => Qk_of (List.all_eq_true.mp (show ([[r0, e1, e2, e3]] : List _).all (qkB 12 [0, 0, -1, 0]) = true by decide +kernel) b hb)
theorem q4 : ∀ l, C4 l → Qk 8 [0, 0, 0, -1, 0] l := t4.go _ (Qk_stb _ _) fun b hb => Qk_of (List.all_eq_true.mp (show ([[r0, e1, e2, e3, e4]] : List _).all (qkB 8 [0, 0, 0, -1, 0]) = true by decide +kernel) b hb)
theorem q5 : ∀ l, C5 l → Qk 4 [0, -1, 0, 0, 0, 0] l := t5.go _ (Qk_stb _ _) fun b hb => Qk_of (List.all_eq_true.mp (show b5.all (qkB 4 [0, -1, 0, 0, 0, 0]) = true by decide +kernel) b hb)
theorem q6 : ∀ l, C6 l → l ≠ [] → fr2 l = 2 := t6.go (fun l => l ≠ [] → fr2 l = 2) (fun g hg l hl q hne => by rw [← fr2_mir hg hl hne]; exact q (by simpa using hne)) fun b hb _ => by
  have := List.all_eq_true.mp (show b6.all (fun b => decide (fr2 b = 2)) = true by decide +kernel) b hb
  simpa using this
end Pf

set_option Elab.async false
set_option linter.all false
set_option maxRecDepth 100000
set_option maxHeartbeats 1000000
namespace Pf
open PySem PySem.Spec PyProof.Rows L2

/-! ## rows cleared by others -/
abbrev Cl := List (List Int × Nat)
def gi (x : List Int) (k : Nat) : Int := x.getD k 0
def red (c : List Int × Nat) (h : List Int) : List Int := less (smul (gi c.1 c.2) h) c.1 (gi h c.2)
def rdc (C : Cl) (v : List Int) : List Int := C.foldl (fun h c => red c h) v
def fst (h : List Int) : Option Nat := (List.range 8).find? fun k => !decide (gi h k = 0)
def cstep (C : Cl) (v : List Int) : Cl := match fst (rdc C v) with
  | some k => C ++ [(rdc C v, k)]
  | none => C
def clr (rows : List (List Int)) : Cl := rows.foldl cstep []
theorem gi_less {x y : List Int} {m : Int} (hx : x.length = 8) (hy : y.length = 8) {k : Nat} (hk : k < 8) : gi (less x y m) k = gi x k - m * gi y k := by
  unfold gi less
  rw [List.getD_eq_getElem?_getD, List.getD_eq_getElem?_getD, List.getD_eq_getElem?_getD, List.getElem?_zipWith, List.getElem?_eq_getElem (by omega), List.getElem?_eq_getElem (by omega)]
  rfl
theorem gi_smul {x : List Int} {m : Int} {k : Nat} : gi (smul m x) k = m * gi x k := by
  unfold gi smul
  rw [List.getD_eq_getElem?_getD, List.getD_eq_getElem?_getD, List.getElem?_map]
  cases x[k]? with
  | none => simp
  | some a => rfl
theorem red_len {c : List Int × Nat} {h : List Int} (hc : c.1.length = 8) (hh : h.length = 8) : (red c h).length = 8 := by
  unfold red
  rw [less_len (by rw [smul_len, hh, hc]), smul_len, hh]
theorem gi_red {c : List Int × Nat} {h : List Int} (hc : c.1.length = 8) (hh : h.length = 8) {k : Nat} (hk : k < 8) : gi (red c h) k = gi c.1 c.2 * gi h k - gi h c.2 * gi c.1 k := by
  unfold red
  rw [gi_less (by rw [smul_len, hh]) hc hk, gi_smul]
theorem rdc_len {C : Cl} : ∀ {v : List Int}, (∀ c ∈ C, c.1.length = 8) → v.length = 8 → (rdc C v).length = 8 := by
  induction C with
  | nil => intro v _ hv; exact hv
  | cons c C ih => intro v hC hv; exact ih (v := red c v) (fun d hd => hC d (List.mem_cons_of_mem _ hd)) (red_len (hC c List.mem_cons_self) hv)
/-- what clearing keeps -/
structure Cw (root : List Int) (C : Cl) : Prop where
  len : ∀ c ∈ C, c.1.length = 8
  lt : ∀ c ∈ C, c.2 < 8
  nz : ∀ c ∈ C, gi c.1 c.2 ≠ 0
  sq : ∀ c ∈ C, mulS c.1 root = 0
  zr : C.Pairwise fun a b => gi b.1 a.2 = 0
theorem rdc_snoc (C : Cl) (c : List Int × Nat) (v : List Int) : rdc (C ++ [c]) v = red c (rdc C v) := by unfold rdc; rw [List.foldl_append]; rfl
theorem rdc_sq {root : List Int} (hr : root.length = 8) {C : Cl} : ∀ {v : List Int}, (∀ c ∈ C, c.1.length = 8) → (∀ c ∈ C, mulS c.1 root = 0) → v.length = 8 → mulS v root = 0 → mulS (rdc C v) root = 0 := by
  induction C with
  | nil => intro v _ _ _ h; exact h
  | cons c C ih =>
    intro v hC hs hv h
    refine ih (v := red c v) (fun d hd => hC d (List.mem_cons_of_mem _ hd)) (fun d hd => hs d (List.mem_cons_of_mem _ hd)) (red_len (hC c List.mem_cons_self) hv) ?_
    unfold red
    rw [mulS_less _ (by rw [smul_len, hv, hC c List.mem_cons_self]), mulS_smul, h, hs c List.mem_cons_self]
    omega
theorem rdc_zero {v : List Int} (hv : v.length = 8) : ∀ (C : Cl), (∀ c ∈ C, c.1.length = 8) → (∀ c ∈ C, c.2 < 8) → (C.Pairwise fun a b => gi b.1 a.2 = 0) → ∀ c ∈ C, gi (rdc C v) c.2 = 0 := by
  have h : ∀ D : Cl, (∀ c ∈ D.reverse, c.1.length = 8) → (∀ c ∈ D.reverse, c.2 < 8) → (D.reverse.Pairwise fun a b => gi b.1 a.2 = 0) → ∀ c ∈ D.reverse, gi (rdc D.reverse v) c.2 = 0 := by
    intro D
    induction D with
    | nil => intro _ _ _ c hc; cases hc
    | cons d D ih =>
      intro h1 h2 h3 c hc
      rw [List.reverse_cons] at h1 h2 h3 hc ⊢
      have m1 : ∀ c ∈ D.reverse, c ∈ D.reverse ++ [d] := fun c hc => List.mem_append_left _ hc
      have md : d ∈ D.reverse ++ [d] := by simp
      obtain ⟨p1, p2, p3⟩ := List.pairwise_append.mp h3
      rw [rdc_snoc, gi_red (h1 d md) (rdc_len (fun c hc => h1 c (m1 c hc)) hv) (h2 c hc)]
      rcases List.mem_append.mp hc with hc | hc
      · rw [ih (fun c hc => h1 c (m1 c hc)) (fun c hc => h2 c (m1 c hc)) p1 c hc, p3 c hc d (by simp)]
        omega
      · rw [List.mem_singleton.mp hc, Int.mul_comm]
        omega
  intro C h1 h2 h3
  have := h C.reverse
  rw [List.reverse_reverse] at this
  exact this h1 h2 h3
theorem fst_some {h : List Int} {k : Nat} (e : fst h = some k) : k < 8 ∧ gi h k ≠ 0 := by
  have h1 := List.find?_some e
  have h2 := List.mem_of_find?_eq_some e
  exact ⟨List.mem_range.mp h2, by simpa using h1⟩
theorem fst_none {h : List Int} (hl : h.length = 8) (e : fst h = none) : ∀ a ∈ h, a = 0 := by
  intro a ha
  obtain ⟨k, hk, rfl⟩ := List.mem_iff_getElem.mp ha
  have := List.find?_eq_none.mp e k (List.mem_range.mpr (by omega))
  unfold gi at this
  rw [List.getD_eq_getElem?_getD, List.getElem?_eq_getElem hk] at this
  simpa using this
theorem Cw.step {root : List Int} {C : Cl} (W : Cw root C) (hr : root.length = 8) {v : List Int} (hv : v.length = 8) (hs : mulS v root = 0) : Cw root (cstep C v) := by
  unfold cstep
  cases e : fst (rdc C v) with
  | none => exact W
  | some k =>
    obtain ⟨hk, hn⟩ := fst_some e
    have ml : ∀ {P : List Int × Nat → Prop}, (∀ c ∈ C, P c) → P (rdc C v, k) → ∀ c ∈ C ++ [(rdc C v, k)], P c := fun h1 h2 c hc => by
      rcases List.mem_append.mp hc with hc | hc
      · exact h1 c hc
      · rw [List.mem_singleton.mp hc]; exact h2
    refine ⟨ml W.len (rdc_len W.len hv), ml W.lt hk, ml W.nz hn, ml W.sq (rdc_sq hr W.len W.sq hv hs), List.pairwise_append.mpr ⟨W.zr, List.pairwise_singleton _ _, fun a ha b hb => ?_⟩⟩
    rw [List.mem_singleton.mp hb]
    exact rdc_zero hv C W.len W.lt W.zr a ha
theorem Cw.all {root : List Int} (hr : root.length = 8) : ∀ (rows : List (List Int)) {C : Cl}, Cw root C → (∀ v ∈ rows, v.length = 8 ∧ mulS v root = 0) → Cw root (rows.foldl cstep C)
  | [], C, W, _ => W
  | v :: rows, C, W, h => Cw.all hr rows (W.step hr (h v List.mem_cons_self).1 (h v List.mem_cons_self).2) fun u hu => h u (List.mem_cons_of_mem _ hu)
theorem cstep_len (C : Cl) (v : List Int) : C.length ≤ (cstep C v).length ∧ (cstep C v).length ≤ C.length + 1 := by
  unfold cstep
  split
  · rw [List.length_append, List.length_singleton]; omega
  · omega
theorem cfold_len : ∀ (rows : List (List Int)) (C : Cl), C.length ≤ (rows.foldl cstep C).length ∧ (rows.foldl cstep C).length ≤ C.length + rows.length
  | [], C => ⟨Nat.le_refl _, Nat.le_refl _⟩
  | v :: rows, C => by
    have h1 := cstep_len C v
    have h2 := cfold_len rows (cstep C v)
    rw [List.foldl_cons, List.length_cons]
    omega
/-- one coordinate tells the product -/
theorem mulS_one {x y : List Int} (hx : x.length = 8) (hy : y.length = 8) {p : Nat} (hp : p < 8) (h : ∀ k, k < 8 → k ≠ p → gi x k * gi y k = 0) : mulS x y = gi x p * gi y p := by
  match x, hx, y, hy with
  | [a, b, c, d, e, f, g, i], _, [a', b', c', d', e', f', g', i'], _ =>
    have h0 : p ≠ 0 → a * a' = 0 := fun q => h 0 (by omega) (Ne.symm q)
    have h1 : p ≠ 1 → b * b' = 0 := fun q => h 1 (by omega) (Ne.symm q)
    have h2 : p ≠ 2 → c * c' = 0 := fun q => h 2 (by omega) (Ne.symm q)
    have h3 : p ≠ 3 → d * d' = 0 := fun q => h 3 (by omega) (Ne.symm q)
    have h4 : p ≠ 4 → e * e' = 0 := fun q => h 4 (by omega) (Ne.symm q)
    have h5 : p ≠ 5 → f * f' = 0 := fun q => h 5 (by omega) (Ne.symm q)
    have h6 : p ≠ 6 → g * g' = 0 := fun q => h 6 (by omega) (Ne.symm q)
    have h7 : p ≠ 7 → i * i' = 0 := fun q => h 7 (by omega) (Ne.symm q)
    show a * a' + (b * b' + (c * c' + (d * d' + (e * e' + (f * f' + (g * g' + (i * i' + 0))))))) = _
    have : p = 0 ∨ p = 1 ∨ p = 2 ∨ p = 3 ∨ p = 4 ∨ p = 5 ∨ p = 6 ∨ p = 7 := by omega
    rcases this with rfl | rfl | rfl | rfl | rfl | rfl | rfl | rfl
    · show _ = a * a'; omega
    · show _ = b * b'; omega
    · show _ = c * c'; omega
    · show _ = d * d'; omega
    · show _ = e * e'; omega
    · show _ = f * f'; omega
    · show _ = g * g'; omega
    · show _ = i * i'; omega
theorem Cw.nodup {root : List Int} {C : Cl} (W : Cw root C) : (C.map (·.2)).Nodup := by
  unfold List.Nodup
  rw [List.pairwise_map]
  refine W.zr.imp_of_mem fun {a b} ha hb h e => ?_
  exact W.nz b hb (by rw [← e]; exact h)
theorem nodup_le8 {l : List Nat} (h : l.Nodup) (hl : ∀ x ∈ l, x < 8) : l.length ≤ 8 := by
  have := sub_len h (m := List.range 8) fun x hx => List.mem_range.mpr (hl x hx)
  simpa using this
theorem Cw.le7 {root : List Int} {C : Cl} (W : Cw root C) (hr : root.length = 8) (h0 : mulS root root ≠ 0) : C.length ≤ 7 := by
  have hn := W.nodup
  have hl : ∀ x ∈ C.map (·.2), x < 8 := fun x hx => by
    obtain ⟨c, hc, rfl⟩ := List.mem_map.mp hx
    exact W.lt c hc
  have h8 := nodup_le8 hn hl
  rw [List.length_map] at h8
  refine Classical.byContradiction fun hc => h0 ?_
  have hC : C.length = 8 := by omega
  have all : ∀ k, k < 8 → k ∈ C.map (·.2) := by
    intro k hk
    refine Classical.byContradiction fun hk2 => ?_
    have := nodup_le8 (l := k :: C.map (·.2)) (List.nodup_cons.mpr ⟨hk2, hn⟩) fun x hx => by
      rcases List.mem_cons.mp hx with rfl | hx
      · exact hk
      · exact hl x hx
    rw [List.length_cons, List.length_map] at this
    omega
  have z : ∀ (post pre : Cl), C = pre ++ post → ∀ c ∈ post, gi root c.2 = 0 := by
    intro post
    induction post with
    | nil => intro _ _ c hc; cases hc
    | cons d post ih =>
      intro pre e c hc
      have ip := ih (pre ++ [d]) (by rw [e]; simp)
      rcases List.mem_cons.mp hc with rfl | hc
      · have mc : c ∈ C := by rw [e]; simp
        have zr := W.zr
        rw [e] at zr
        obtain ⟨p1, p2, p3⟩ := List.pairwise_append.mp zr
        have q := mulS_one (W.len c mc) hr (W.lt c mc) fun k hk hne => by
          have := all k hk
          rw [e, List.map_append, List.map_cons] at this
          rcases List.mem_append.mp this with q | q
          · obtain ⟨b, hb, rfl⟩ := List.mem_map.mp q
            rw [p3 b hb c (by simp)]
            omega
          · rcases List.mem_cons.mp q with q | q
            · exact absurd q hne
            · obtain ⟨b, hb, rfl⟩ := List.mem_map.mp q
              rw [ip b hb]
              omega
        rw [W.sq c mc] at q
        rcases Int.mul_eq_zero.mp q.symm with q | q
        · exact absurd q (W.nz c mc)
        · exact q
      · exact ip c hc
  have zz : ∀ k, k < 8 → gi root k = 0 := fun k hk => by
    obtain ⟨c, hc, rfl⟩ := List.mem_map.mp (all k hk)
    exact z C [] rfl c hc
  rw [mulS_one hr hr (p := 0) (by decide) fun k hk _ => by rw [zz k hk]; omega, zz 0 (by decide)]
  omega
/-! ### lines that are cleared away -/
theorem mulS_all_zero : ∀ {x : List Int} (t : List Int), (∀ a ∈ x, a = 0) → mulS x t = 0
  | [], t, _ => by simp [mulS]
  | a :: x, [], _ => by simp [mulS]
  | a :: x, b :: t, h => by
    rw [mulS_cons, h a List.mem_cons_self, mulS_all_zero t fun y hy => h y (List.mem_cons_of_mem _ hy)]
    omega
theorem sp_zero {M : Int} {B : Bs} {x : List Int} (hx : x.length = 8) (h : ∀ a ∈ x, a = 0) : Sp M B x :=
  ⟨hx, fun t _ => by
    have z : pr B x t = 0 := sum_zero fun p _ => by rw [mulS_all_zero p.1 h]; simp
    rw [mulS_all_zero t h, z]
    omega⟩
theorem sp_rdc {M : Int} {B : Bs} {C : Cl} : ∀ {v : List Int}, (∀ c ∈ C, Sp M B c.1) → (∀ c ∈ C, gi c.1 c.2 ≠ 0) → v.length = 8 → Sp M B (rdc C v) → Sp M B v := by
  induction C with
  | nil => intro v _ _ _ h; exact h
  | cons c C ih =>
    intro v hC hn hv h
    have hc := hC c List.mem_cons_self
    refine Sp.back (w := c.1) (a := gi c.1 c.2) (b := gi v c.2) (hn c List.mem_cons_self) hv hc ?_
    exact ih (v := red c v) (fun d hd => hC d (List.mem_cons_of_mem _ hd)) (fun d hd => hn d (List.mem_cons_of_mem _ hd)) (red_len hc.len hv) h
def gone (C : Cl) (v : List Int) : Bool := (rdc C v).all fun x => decide (x = 0)
theorem gone_le {root : List Int} {C : Cl} (W : Cw root C) (hr : root.length = 8) (h0 : mulS root root ≠ 0) {L : List (List Int)} (h1 : ∀ v ∈ L, v.length = 8 ∧ mulS v v = 24) (h2 : L.Pairwise fun u v => mulS u v * mulS u v = 64) : L.countP (gone C) ≤ mostL C.length := by
  obtain ⟨M, B, G, hB, hS⟩ := gs_ex (C.map (·.1)) fun w hw => by
    obtain ⟨c, hc, rfl⟩ := List.mem_map.mp hw
    exact W.len c hc
  rw [List.length_map] at hB
  have hC : ∀ c ∈ C, Sp M B c.1 := fun c hc => hS c.1 (List.mem_map.mpr ⟨c, hc, rfl⟩)
  have := lines_le G (S := L.filter (gone C)) (fun v hv => by
    obtain ⟨v1, v2⟩ := List.mem_filter.mp hv
    obtain ⟨v8, v24⟩ := h1 v v1
    refine ⟨sp_rdc hC W.nz v8 (sp_zero (rdc_len W.len v8) fun a ha => ?_), v24⟩
    have := List.all_eq_true.mp v2 a ha
    simpa using this) (h2.sublist List.filter_sublist)
  rw [List.countP_eq_length_filter]
  exact most_of this hB (W.le7 hr h0)
end Pf

set_option Elab.async false
set_option linter.all false
set_option maxRecDepth 100000
set_option maxHeartbeats 1000000
namespace Pf
open PySem PySem.Spec PyProof.Rows L2

/-! ## the lines of a root -/
def line (r x : List Int) : List Int := less x (less r x 1) 1
def LN (r : List Int) : List (List Int) := (N28 r).map (line r)
theorem mulS_line {r x : List Int} (h : r.length = x.length) (t : List Int) : mulS (line r x) t = 2 * mulS x t - mulS r t := by
  unfold line
  rw [mulS_less 1 (by rw [less_len h, h]), mulS_less 1 h]
  omega
theorem N28_mem {r x : List Int} (h : x ∈ N28 r) : x ∈ N1 r ∧ ltR x (less r x 1) = true := List.mem_filter.mp h
theorem N28_nodup (r : List Int) : (N28 r).Nodup := (N1_nodup r).filter _
theorem line_lat {r x : List Int} (hr : r ∈ RT) (hx : x ∈ RT) : Lat (line r x) := (RT_lat hx).less 1 ((RT_lat hr).less 1 (RT_lat hx))
theorem line_sq {r x : List Int} (hr : r ∈ RT) (hx : x ∈ N1 r) : mulS (line r x) (line r x) = 24 ∧ mulS (line r x) r = 0 := by
  obtain ⟨h1, h2⟩ := N1_mem.mp hx
  have hl : r.length = x.length := by rw [RT_l8 hr, RT_l8 h1]
  have hm : mulS r x = 4 := by rw [(RT_lat hr).dot (RT_lat h1), h2]; rfl
  have e1 := RT_sq hr
  have e2 := RT_sq h1
  rw [mulS_line hl, mulS_comm x, mulS_line hl, mulS_comm r (line r x), mulS_line hl, mulS_comm x r]
  omega
theorem zero_eq : ∀ {x y : List Int}, x.length = y.length → mulS (less x y 1) (less x y 1) = 0 → x = y
  | [], [], _, _ => rfl
  | a :: x, b :: y, h, e => by
    have e' : (a - 1 * b) * (a - 1 * b) + mulS (less x y 1) (less x y 1) = 0 := e
    have h1 := sq_nn (a - 1 * b)
    have h2 := mulS_nn (less x y 1)
    have h3 : (a - 1 * b) * (a - 1 * b) = 0 := by omega
    have h4 : a = b := by rcases Int.mul_eq_zero.mp h3 with q | q <;> omega
    rw [h4, zero_eq (Nat.succ.inj h) (by omega)]
theorem line_two {r x y : List Int} (hr : r ∈ RT) (hx : x ∈ N28 r) (hy : y ∈ N28 r) (hne : x ≠ y) : mulS (line r x) (line r y) = 8 ∨ mulS (line r x) (line r y) = -8 := by
  obtain ⟨hx1, hx2⟩ := N28_mem hx
  obtain ⟨hy1, hy2⟩ := N28_mem hy
  obtain ⟨h1, h2⟩ := N1_mem.mp hx1
  obtain ⟨k1, k2⟩ := N1_mem.mp hy1
  have lx : r.length = x.length := by rw [RT_l8 hr, RT_l8 h1]
  have ly : r.length = y.length := by rw [RT_l8 hr, RT_l8 k1]
  have lxy : x.length = y.length := by rw [← lx, ly]
  have hm : mulS r x = 4 := by rw [(RT_lat hr).dot (RT_lat h1), h2]; rfl
  have km : mulS r y = 4 := by rw [(RT_lat hr).dot (RT_lat k1), k2]; rfl
  have e0 := RT_sq hr
  have e1 := RT_sq h1
  have e2 := RT_sq k1
  have q : mulS (line r x) (line r y) = 4 * mulS x y - 8 := by
    rw [mulS_line lx, mulS_comm x, mulS_line ly, mulS_comm r (line r y), mulS_line ly, mulS_comm y r, mulS_comm y x]
    omega
  have hd := (RT_lat h1).dot (RT_lat k1)
  have hb := dot_bd h1 k1
  have n2 : dot x y ≠ 2 := fun e => by
    have z : mulS (less x y 1) (less x y 1) = 0 := by
      rw [mulS_less 1 lxy, mulS_less' 1 lxy, mulS_less' 1 lxy, mulS_comm y x]
      omega
    exact hne (zero_eq lxy z)
  have n1 : dot x y ≠ -1 := fun e => by
    have lz : (less r x 1).length = y.length := by rw [less_len lx, ly]
    have z : mulS (less (less r x 1) y 1) (less (less r x 1) y 1) = 0 := by
      rw [mulS_less 1 lz, mulS_less' 1 lz, mulS_less' 1 lz, mulS_comm y (less r x 1), mulS_less 1 lx, mulS_less 1 lx, mulS_less' 1 lx, mulS_less' 1 lx, mulS_comm x r, mulS_comm r y, mulS_comm y r]
      omega
    have e3 := zero_eq lz z
    rw [e3] at hx2
    have e4 := (N1_less hr hx1).2.1
    rw [e3] at e4
    rw [e4] at hy2
    rw [tot_row.asym hx2] at hy2
    cases hy2
  have n3 : dot x y ≠ -2 := fun e => by
    have := mulS_nn (add (add x y) r)
    have la : (add x y).length = r.length := by rw [add_len lxy, lx]
    have z : mulS (add x y) (add x y) = 0 := by
      rw [mulS_add lxy, mulS_comm x, mulS_comm y (add x y), mulS_add lxy, mulS_add lxy, mulS_comm y x]
      omega
    have z2 := zero_of z (x := r) la.symm
    rw [mulS_comm, mulS_add lxy, mulS_comm x, mulS_comm y] at z2
    omega
  omega
theorem LN_len {r : List Int} (hr : r ∈ RT) : (LN r).length = 28 := by unfold LN; rw [List.length_map, N28_len hr]
theorem LN_mem {r v : List Int} (h : v ∈ LN r) : ∃ x, x ∈ N28 r ∧ v = line r x := by
  obtain ⟨x, hx, rfl⟩ := List.mem_map.mp h
  exact ⟨x, hx, rfl⟩
theorem LN_lat {r v : List Int} (hr : r ∈ RT) (h : v ∈ LN r) : Lat v ∧ mulS v v = 24 ∧ mulS v r = 0 := by
  obtain ⟨x, hx, rfl⟩ := LN_mem h
  have h1 := (N28_mem hx).1
  exact ⟨line_lat hr (N1_mem.mp h1).1, line_sq hr h1⟩
theorem LN_pw {r : List Int} (hr : r ∈ RT) : (LN r).Pairwise fun u v => mulS u v = 8 ∨ mulS u v = -8 := by
  unfold LN
  rw [List.pairwise_map]
  exact (N28_nodup r).imp_of_mem fun {a b} ha hb h => line_two hr ha hb h
theorem LN_sq {r : List Int} (hr : r ∈ RT) : (LN r).Pairwise fun u v => mulS u v * mulS u v = 64 := (LN_pw hr).imp fun {u v} h => by rcases h with h | h <;> rw [h] <;> rfl
theorem LN_nodup {r : List Int} (hr : r ∈ RT) : (LN r).Nodup := (LN_pw hr).imp_of_mem fun {u v} hu hv h e => by
  rw [← e, (LN_lat hr hu).2.1] at h
  rcases h with h | h <;> cases h
def bd (n : Nat) (x : List Int) : Prop := ∀ a ∈ x, a.natAbs ≤ n
theorem RT_bd {x : List Int} (h : x ∈ RT) : bd 2 x := fun a ha => by have := (RT_row x h).2 a ha; omega
theorem less_bd {x y : List Int} {n m : Nat} (hx : bd n x) (hy : bd m y) (k : Int) : bd (n + k.natAbs * m) (less x y k) := by
  intro c hc
  unfold less at hc
  obtain ⟨i, hi, e⟩ := List.mem_iff_getElem.mp hc
  rw [List.getElem_zipWith] at e
  rw [List.length_zipWith] at hi
  have h1 := hx (x[i]'(by omega)) (List.getElem_mem _)
  have h2 := hy (y[i]'(by omega)) (List.getElem_mem _)
  have h3 : (k * y[i]'(by omega)).natAbs ≤ k.natAbs * m := by rw [Int.natAbs_mul]; exact Nat.mul_le_mul_left _ h2
  omega
theorem LN_bd {r v : List Int} (hr : r ∈ RT) (h : v ∈ LN r) : bd 6 v := by
  obtain ⟨x, hx, rfl⟩ := LN_mem h
  have h1 := (N1_mem.mp (N28_mem hx).1).1
  exact less_bd (RT_bd h1) (less_bd (RT_bd hr) (RT_bd h1) 1) 1
theorem bd_rw {x : List Int} {n : Nat} (h : bd n x) (hn : n ≤ 1000000) (h8 : x.length = 8) : Rw x := ⟨h8, fun a ha => by have := h a ha; omega⟩
theorem LN_rw {r v : List Int} (hr : r ∈ RT) (h : v ∈ LN r) : Rw v := bd_rw (LN_bd hr h) (by decide) (LN_lat hr h).1.1
/-! ## evaluation -/
theorem f_less {r s : List Int} (φ : Fd) (hl : r.length ≤ 1000) : F_row_less [row r, row s] φ = .ok (row (less r s 1)) φ := by
  refine run_ret ?_
  rw [lcm_ok (r.zip s) _ (fun p => D.int (p.1 - p.2)) (zip_rows (two_ok (v_ok rfl) (v_ok rfl))) (zip_len hl) fun p hp => ⟨_, rfl, bin_ok (v_ok rfl) (v_ok rfl) rfl⟩]
  unfold row less
  have e : (fun a b : Int => a - 1 * b) = fun a b => a - b := by funext a b; rw [Int.one_mul]
  rw [e, ← zip_map, List.map_map]; rfl
theorem lt_rows (x y : List Int) : gLtA (row x) (row y) = some (.bl (ltR x y)) := by
  show gLtD (row x) (row y) = _
  unfold gLtD
  rw [if_pos (emb_row.okLt (by decide) x y), emb_row.lt]
theorem f_56 {r : List Int} (hr : r ∈ RT) (φ : Fd) : F_fifty_six [row r] φ = .ok (rws (N1 r)) φ := run_ret (call_ok (two_ok (v_ok rfl) rfl) (f_with φ (RT_rw hr)))
def pq (r x : List Int) : D := .tup [row x, row (less r x 1)]
theorem f_28 {r : List Int} (hr : r ∈ RT) (φ : Fd) : F_twenty_eight [row r] φ = .ok (.lst ((N28 r).map (pq r))) φ := by
  have hl := N1_len r hr
  have e1 : eLc (iSeq (eCall F_fifty_six (aCons (eVar 0) aNil))) (tgN 2) bYes (eTup (aCons (eVar 2) (aCons (eCall F_row_less (aCons (eVar 0) (aCons (eVar 2) aNil))) aNil))) [2] [some (row r), none, none, none] φ = .ok (.lst ((N1 r).map (pq r))) φ :=
    lcm_ok (N1 r) row (pq r) (seq_l (call_ok (one_ok (v_ok rfl)) (f_56 hr φ))) (size_le (by omega)) fun x _ => ⟨_, rfl, tup_ok (two_ok (v_ok rfl) (call_ok (two_ok (v_ok rfl) (v_ok rfl)) (f_less φ (by rw [RT_l8 hr]; decide)))) (size_le (show 2 ≤ 1000000 by decide))⟩
  exact run_rt (seq_nx (set_ok e1) (seq_rt (ret_ok (lc_ok (N1 r) (pq r) (fun x => ltR x (less r x 1)) (pq r) (seq_l (v_ok rfl)) (size_le (by omega)) fun x _ => ⟨_, rfl, cmp_ok (v_ok rfl) (v_ok rfl) (lt_rows _ _), fun _ => tup_ok (two_ok (v_ok rfl) (v_ok rfl)) (size_le (show 2 ≤ 1000000 by decide))⟩))))
theorem f_lines {r : List Int} (hr : r ∈ RT) (φ : Fd) : F_lines_of [row r] φ = .ok (rws (LN r)) φ := by
  refine run_ret ((lcm_ok (N28 r) (pq r) (fun x => row (line r x)) (seq_l (call_ok (one_ok (v_ok rfl)) (f_28 hr φ))) (size_le (by rw [N28_len hr]; decide)) fun x hx => ⟨_, rfl, call_ok (two_ok (v_ok rfl) (v_ok rfl)) (f_less φ (by rw [RT_l8 (N1_mem.mp (N28_mem hx).1).1]; decide))⟩).trans ?_)
  unfold rws LN
  rw [List.map_map]
  rfl
theorem f_ldot {r s : List Int} (φ : Fd) (hr : Rw r) (hs : Rw s) : F__law_dot [row r, row s] φ = .ok (.int (dot r s)) φ := by
  refine run_ret (bin_ok (cb1_ok (lcm_ok (List.range 8) _ (fun k => D.int (r.getD k 0 * s.getD k 0)) rg8 (by decide) fun k hk => ⟨_, rfl, bin_ok (bin_ok (v_ok rfl) (v_ok rfl) (gIx_row (getD_get hr.1 hk))) (bin_ok (v_ok rfl) (v_ok rfl) (gIx_row (getD_get hs.1 hk))) (gMul_ok' ?_)⟩) ?_) rfl (gDiv_ok (by decide) (by decide)))
  · have := getD_bd hr hk
    omega
  · have : (List.range 8).map (fun k => D.int (r.getD k 0 * s.getD k 0)) = (List.zipWith (fun a b => a * b) r s).map D.int := by
      rw [← range8 hr.1 hs.1, List.map_map]; rfl
    rw [this]
    exact gSum_ints _
theorem by8s {ρ : En} {φ : Fd} {i j k : Nat} {x y : List Int} (hx : x.length = 8) (hy : y.length = 8)
    (hi : ∀ z : D, ((wipeE ρ [k]).set k (some z))[i]? = some (some (row x))) (hj : ∀ z : D, ((wipeE ρ [k]).set k (some z))[j]? = some (some (row y))) (hk : ∀ z : D, ((wipeE ρ [k]).set k (some z))[k]? = some (some z)) :
    eLc (iRg1 (aCons (eInt 8) aNil)) (tgN k) bYes (eBin gSub (eBin gIx (eVar i) (eVar k)) (eBin gIx (eVar j) (eVar k))) [k] ρ φ = .ok (row (less x y 1)) φ := by
  refine Eq.trans (b := O.ok (D.lst ((List.range 8).map fun k => D.int (x.getD k 0 - 1 * y.getD k 0))) _) (lcm_ok (List.range 8) _ (fun k => D.int (x.getD k 0 - 1 * y.getD k 0)) rg8 (by decide) fun t ht => ⟨_, rfl, bin_ok (bin_ok (v_ok (hi _)) (v_ok (hk _)) (gIx_row (getD_get hx ht))) (bin_ok (v_ok (hj _)) (v_ok (hk _)) (gIx_row (getD_get hy ht))) (by rw [Int.one_mul]; rfl)⟩) ?_
  unfold row less
  rw [← range8 hx hy (fun a b => a - 1 * b), List.map_map]
  rfl
theorem f_llines {r : List Int} (hr : r ∈ RT) (φ : Fd) : F__law_lines [rws RT, row r] φ = .ok (rws (LN r)) φ := by
  have e2 : eLc (iSeq (eVar 0)) (tgN 4) (bCmp gEq (eCall F__law_dot (aCons (eVar 4) (aCons (eVar 1) aNil))) (eInt 1)) (eVar 4) [4] [some (rws RT), some (row r), none, none, none, none, none] φ = .ok (rws (N1 r)) φ := by
    have e : N1 r = RT.filter fun x => decide (dot x r = 1) := List.filter_congr fun x _ => by rw [dot_comm]
    rw [e]
    exact lc_ok RT row (fun x => decide (dot x r = 1)) row (seq_l (v_ok rfl)) (size_le (by rw [RT_len]; decide)) fun x hx => ⟨_, rfl, cmp_ok (call_ok (two_ok (v_ok rfl) (v_ok rfl)) (f_ldot φ (RT_rw hx) (RT_rw hr))) rfl (eq_int _ _), fun _ => v_ok rfl⟩
  obtain ⟨ρ', h1, y, z, hρ⟩ := for_app (T := tgN 4) (φ := φ) (e := row) (B := (sSeq (sSet 5 (eLc (iRg1 (aCons (eInt 8) aNil)) (tgN 6) bYes (eBin gSub (eBin gIx (eVar 1) (eVar 6)) (eBin gIx (eVar 4) (eVar 6))) [6])) (sSeq (sIf (bCmp gLtA (eVar 4) (eVar 5)) (sSeq (sMut 3 gApp (eLc (iRg1 (aCons (eInt 8) aNil)) (tgN 6) bYes (eBin gSub (eBin gIx (eVar 4) (eVar 6)) (eBin gIx (eVar 5) (eVar 6))) [6])) sNil) sNil) sNil)))
    (fun x => if ltR x (less r x 1) = true then [line r x] else []) (fun acc ρ => ∃ y z, ρ = [some (rws RT), some (row r), some (rws (N1 r)), some (rws acc), y, z, none]) (N1 r) [] (ρ := [some (rws RT), some (row r), some (rws (N1 r)), some (.lst []), none, none, none]) ⟨none, none, rfl⟩ (by
      have : ((N1 r).flatMap fun x => if ltR x (less r x 1) = true then [line r x] else []).length ≤ (N1 r).length * 1 := flat_len fun x _ => by split <;> simp
      rw [N1_len r hr] at this
      rw [List.length_nil]
      omega) (by
    rintro x hx acc ρ hl ⟨y, z, rfl⟩
    have h1 := (N1_mem.mp hx).1
    have lx : r.length = x.length := by rw [RT_l8 hr, RT_l8 h1]
    have ll : (less r x 1).length = 8 := by rw [less_len lx, RT_l8 hr]
    have s5 : ∀ y z : Option D, sSet 5 (eLc (iRg1 (aCons (eInt 8) aNil)) (tgN 6) bYes (eBin gSub (eBin gIx (eVar 1) (eVar 6)) (eBin gIx (eVar 4) (eVar 6))) [6]) [some (rws RT), some (row r), some (rws (N1 r)), some (rws acc), some (row x), z, none] φ = .nx [some (rws RT), some (row r), some (rws (N1 r)), some (rws acc), some (row x), some (row (less r x 1)), none] φ := fun y z => set_ok (by8s (RT_l8 hr) (RT_l8 h1) (fun _ => rfl) (fun _ => rfl) (fun _ => rfl))
    refine ⟨_, rfl, ?_⟩
    by_cases h : ltR x (less r x 1) = true
    · rw [if_pos h] at hl ⊢
      refine ⟨_, .inl (seq_nx (s5 none z) (seq_one (if_yes ((cmp_ok (v_ok rfl) (v_ok rfl) (lt_rows _ _)).trans (by rw [h])) (seq_one (app_ok (l := acc.map row) rfl (by8s (RT_l8 h1) ll (fun _ => rfl) (fun _ => rfl) (fun _ => rfl)) (size_lt (by rw [List.length_map]; simp at hl; omega))))))), some (row x), some (row (less r x 1)), ?_⟩
      have : rws (acc ++ [line r x]) = .lst (acc.map row ++ [row (line r x)]) := by unfold rws; rw [List.map_append]; rfl
      rw [this]
      rfl
    · rw [if_neg h, List.append_nil]
      exact ⟨_, .inl (seq_nx (s5 none z) (seq_one (if_skip ((cmp_ok (v_ok rfl) (v_ok rfl) (lt_rows _ _)).trans (by rw [Bool.eq_false_iff.mpr h]))))), _, _, rfl⟩)
  subst hρ
  have e : ([] : List (List Int)) ++ (N1 r).flatMap (fun x => if ltR x (less r x 1) = true then [line r x] else []) = LN r := by
    rw [List.nil_append]
    unfold LN N28
    generalize N1 r = l
    induction l with
    | nil => rfl
    | cons x l ih =>
      rw [List.flatMap_cons, ih, List.filter_cons]
      by_cases h : ltR x (less r x 1) = true
      · rw [if_pos h, if_pos h]; rfl
      · rw [if_neg h, if_neg h]; rfl
  rw [e] at h1
  exact run_rt (seq_nx (set_ok e2) (seq_nx (set_ok rfl) (seq_nx (for_ok (seq_l (v_ok rfl)) h1) (seq_rt (ret_ok (v_ok rfl))))))
theorem R_perm : RT.Perm (EV ++ OD) := RT_eo
end Pf

set_option Elab.async false
set_option linter.all false
set_option maxRecDepth 100000
set_option maxHeartbeats 1000000
namespace Pf
open PySem PySem.Spec PyProof.Rows L2

/-! ## the rank of the lines -/
def fitAt (left : List (List Int)) (p : Nat) : Option Nat := (List.range left.length).find? fun k => !decide (gi (gw left k) p = 0)
def rstep (st : List (List Int) × Cl) (p : Nat) : List (List Int) × Cl := match fitAt st.1 p with
  | some k => ((st.1.eraseIdx k).map (red (gw st.1 k, p)), st.2 ++ [(gw st.1 k, p)])
  | none => st
theorem fitAt_some {left : List (List Int)} {p k : Nat} (e : fitAt left p = some k) : k < left.length ∧ gi (gw left k) p ≠ 0 := by
  have h1 := List.find?_some e
  have h2 := List.mem_of_find?_eq_some e
  exact ⟨List.mem_range.mp h2, by simpa using h1⟩
theorem fitAt_none {left : List (List Int)} {p : Nat} (e : fitAt left p = none) : ∀ v ∈ left, gi v p = 0 := by
  intro v hv
  obtain ⟨k, hk, rfl⟩ := List.mem_iff_getElem.mp hv
  have := List.find?_eq_none.mp e k (List.mem_range.mpr hk)
  have e2 : gw left k = left[k] := by unfold gw; rw [List.getD_eq_getElem?_getD, List.getElem?_eq_getElem hk]; rfl
  rw [e2] at this
  simpa using this
structure RI (root : List Int) (rows : List (List Int)) (p : Nat) (st : List (List Int) × Cl) : Prop where
  l : ∀ v ∈ st.1, v.length = 8 ∧ mulS v root = 0 ∧ ∀ q, q < p → gi v q = 0
  c : Cw root st.2
  lt : ∀ c ∈ st.2, c.2 < p
  sp : ∀ (M : Int) (B : Bs), (∀ c ∈ st.2, Sp M B c.1) → (∀ v ∈ st.1, Sp M B v) → ∀ v ∈ rows, Sp M B v
theorem erase_or {α : Type} : ∀ {l : List α} {k : Nat} {x v : α}, l[k]? = some x → v ∈ l → v = x ∨ v ∈ l.eraseIdx k
  | [], k, x, v, h, _ => by simp at h
  | a :: l, 0, x, v, h, hv => by
    simp at h
    subst h
    rcases List.mem_cons.mp hv with q | q
    · exact .inl q
    · exact .inr q
  | a :: l, k + 1, x, v, h, hv => by
    rcases List.mem_cons.mp hv with q | q
    · exact .inr (by rw [q]; simp)
    · rcases erase_or (l := l) (k := k) (by simpa using h) q with q | q
      · exact .inl q
      · exact .inr (by rw [List.eraseIdx_cons_succ]; exact List.mem_cons_of_mem _ q)
theorem RI.step {root : List Int} {rows : List (List Int)} {p : Nat} {st : List (List Int) × Cl} (hr : root.length = 8) (hp : p < 8) (h : RI root rows p st) : RI root rows (p + 1) (rstep st p) := by
  unfold rstep
  cases e : fitAt st.1 p with
  | none =>
    have z := fitAt_none e
    refine ⟨fun v hv => ⟨(h.l v hv).1, (h.l v hv).2.1, fun q hq => ?_⟩, h.c, fun c hc => by have := h.lt c hc; omega, h.sp⟩
    rcases (show q < p ∨ q = p by omega) with q1 | q1
    · exact (h.l v hv).2.2 q q1
    · rw [q1]; exact z v hv
  | some k =>
    obtain ⟨hk, hn⟩ := fitAt_some e
    have gm := gw_mem hk
    obtain ⟨o1, o2, o3⟩ := h.l _ gm
    have ml : ∀ {P : List Int × Nat → Prop}, (∀ c ∈ st.2, P c) → P (gw st.1 k, p) → ∀ c ∈ st.2 ++ [(gw st.1 k, p)], P c := fun h1 h2 c hc => by
      rcases List.mem_append.mp hc with hc | hc
      · exact h1 c hc
      · rw [List.mem_singleton.mp hc]; exact h2
    refine ⟨fun v hv => ?_, ⟨ml h.c.len o1, ml h.c.lt hp, ml h.c.nz hn, ml h.c.sq o2, List.pairwise_append.mpr ⟨h.c.zr, List.pairwise_singleton _ _, fun a ha b hb => ?_⟩⟩, ml (fun c hc => by have := h.lt c hc; omega) (Nat.lt_succ_self p), fun M B hC hL v hv => ?_⟩
    · obtain ⟨u, hu, rfl⟩ := List.mem_map.mp hv
      obtain ⟨u1, u2, u3⟩ := h.l u (List.mem_of_mem_eraseIdx hu)
      refine ⟨red_len o1 u1, ?_, fun q hq => ?_⟩
      · unfold red
        rw [mulS_less _ (by rw [smul_len, u1, o1]), mulS_smul, u2, o2]
        omega
      · rw [gi_red o1 u1 (by omega)]
        rcases (show q < p ∨ q = p by omega) with q1 | q1
        · rw [u3 q q1, o3 q q1]
          omega
        · rw [q1]
          show gi (gw st.1 k) p * gi u p - gi u p * gi (gw st.1 k) p = 0
          rw [Int.mul_comm]
          omega
    · rw [List.mem_singleton.mp hb]
      exact o3 _ (h.lt a ha)
    · have hown : Sp M B (gw st.1 k) := hC (gw st.1 k, p) (by simp)
      refine h.sp M B (fun c hc => hC c (List.mem_append_left _ hc)) (fun u hu => ?_) v hv
      rcases erase_or (gw_get hk) hu with q | q
      · rw [q]; exact hown
      · exact Sp.back (w := gw st.1 k) (a := gi (gw st.1 k) p) (b := gi u p) hn (h.l u hu).1 hown (hL _ (List.mem_map.mpr ⟨u, q, rfl⟩))
theorem RI.all {root : List Int} {rows : List (List Int)} (hr : root.length = 8) (h : ∀ v ∈ rows, v.length = 8 ∧ mulS v root = 0) : ∀ p, p ≤ 8 → RI root rows p ((List.range p).foldl rstep (rows, []))
  | 0, _ => ⟨fun v hv => ⟨(h v hv).1, (h v hv).2, fun q hq => by omega⟩, ⟨fun _ h => (by cases h), fun _ h => (by cases h), fun _ h => (by cases h), fun _ h => (by cases h), .nil⟩, fun _ h => (by cases h), fun _ _ _ hL => hL⟩
  | p + 1, hp => by
    rw [List.range_succ, List.foldl_append]
    exact (RI.all hr h p (by omega)).step hr (by omega)
theorem rank7 {r : List Int} (hr : r ∈ RT) : ((List.range 8).foldl rstep (LN r, [])).2.length = 7 := by
  have I := RI.all (RT_l8 hr) (fun v hv => ⟨(LN_lat hr hv).1.1, (LN_lat hr hv).2.2⟩) (rows := LN r) 8 (Nat.le_refl _)
  have h7 := I.c.le7 (RT_l8 hr) (by rw [RT_sq hr]; decide)
  obtain ⟨M, B, G, hB, hS⟩ := gs_ex (((List.range 8).foldl rstep (LN r, [])).2.map (·.1)) fun w hw => by
    obtain ⟨c, hc, rfl⟩ := List.mem_map.mp hw
    exact I.c.len c hc
  rw [List.length_map] at hB
  have sp := I.sp M B (fun c hc => hS c.1 (List.mem_map.mpr ⟨c, hc, rfl⟩)) fun v hv => by
    obtain ⟨v1, v2, v3⟩ := I.l v hv
    refine sp_zero v1 fun a ha => ?_
    obtain ⟨k, hk, rfl⟩ := List.mem_iff_getElem.mp ha
    have := v3 k (by omega)
    unfold gi at this
    rw [List.getD_eq_getElem?_getD, List.getElem?_eq_getElem hk] at this
    exact this
  have := lines_le G (S := LN r) (fun v hv => ⟨sp v hv, (LN_lat hr hv).2.1⟩) (LN_sq hr)
  rw [LN_len hr] at this
  omega
/-! ## evaluation: numbers that grow -/
def bw (b : Nat) (x : List Int) : Prop := ∀ a ∈ x, a.natAbs < 2 ^ b
theorem bw_gi {b : Nat} {x : List Int} (h : bw b x) (k : Nat) : (gi x k).natAbs < 2 ^ b := by
  unfold gi
  rw [List.getD_eq_getElem?_getD]
  cases e : x[k]? with
  | none => exact Nat.two_pow_pos b
  | some a => exact h a (List.mem_of_getElem? e)
theorem bw_mono {b c : Nat} {x : List Int} (h : bw b x) (hb : b ≤ c) : bw c x := fun a ha => Nat.lt_of_lt_of_le (h a ha) (Nat.pow_le_pow_right (by decide) hb)
theorem gMul_w {a c : Int} {b : Nat} (ha : a.natAbs < 2 ^ b) (hc : c.natAbs < 2 ^ b) (hb : b ≤ 100000) : gMul (.int a) (.int c) = some (.int (a * c)) := by
  show (if cMul a c = true then _ else _) = _
  rw [if_pos]
  unfold cMul
  have e : ∀ {x : Int}, x.natAbs < 2 ^ b → x.natAbs < 2 ^ (b + 1) := fun h => Nat.lt_of_lt_of_le h (Nat.pow_le_pow_right (by decide) (Nat.le_succ b))
  have w : CMulW a c := wide_mul (a := b + 1) (b := b + 1) (e ha) (e hc) (by omega) (by omega) (by omega)
  have w' : a.natAbs.log2 + c.natAbs.log2 < 1000000 := w
  rw [decide_eq_true w']
  simp
theorem cross_bw {a b c d : Int} {n m : Nat} (ha : a.natAbs < 2 ^ n) (hb : b.natAbs < 2 ^ m) (hc : c.natAbs < 2 ^ n) (hd : d.natAbs < 2 ^ m) : (a * b - d * c).natAbs < 2 ^ (n + m + 1) := by
  have h1 : (a * b).natAbs < 2 ^ n * 2 ^ m := by rw [Int.natAbs_mul]; exact Nat.mul_lt_mul_of_lt_of_lt ha hb
  have h2 : (d * c).natAbs < 2 ^ n * 2 ^ m := by rw [Int.natAbs_mul, Nat.mul_comm]; exact Nat.mul_lt_mul_of_lt_of_lt hc hd
  have e : (2 : Nat) ^ (n + m + 1) = 2 ^ n * 2 ^ m + 2 ^ n * 2 ^ m := by rw [Nat.pow_succ, Nat.pow_add]; omega
  rw [e]
  omega
theorem red_bw {c : List Int × Nat} {h : List Int} {n m : Nat} (hc : c.1.length = 8) (hh : h.length = 8) (h1 : bw n c.1) (h2 : bw m h) : bw (n + m + 1) (red c h) := by
  intro a ha
  obtain ⟨k, hk, rfl⟩ := List.mem_iff_getElem.mp ha
  have hk8 : k < 8 := by rw [red_len hc hh] at hk; exact hk
  have e := gi_red hc hh hk8
  have e2 : gi (red c h) k = (red c h)[k] := by unfold gi; rw [List.getD_eq_getElem?_getD, List.getElem?_eq_getElem hk]; rfl
  rw [← e2, e]
  exact cross_bw (bw_gi h1 _) (bw_gi h2 _) (bw_gi h1 _) (bw_gi h2 _)
theorem gi_get {x : List Int} {k : Nat} (hx : x.length = 8) (hk : k < 8) : gIx (row x) (.int (k : Int)) = some (.int (gi x k)) := gIx_row (getD_get hx (List.mem_range.mpr hk))
/-- [h[k] * own[p] - own[k] * h[p] for k in range(8)] -/
theorem red_ok {ρ : En} {φ : Fd} {i j q k : Nat} {own h : List Int} {p b : Nat} (ho : own.length = 8) (hh : h.length = 8) (hp : p < 8) (h1 : bw b own) (h2 : bw b h) (hb : b ≤ 100000)
    (hi : ∀ z : D, ((wipeE ρ [k]).set k (some z))[i]? = some (some (row h))) (hj : ∀ z : D, ((wipeE ρ [k]).set k (some z))[j]? = some (some (row own))) (hq : ∀ z : D, ((wipeE ρ [k]).set k (some z))[q]? = some (some (.int (p : Int)))) (hk : ∀ z : D, ((wipeE ρ [k]).set k (some z))[k]? = some (some z)) :
    eLc (iRg1 (aCons (eInt 8) aNil)) (tgN k) bYes (eBin gSub (eBin gMul (eBin gIx (eVar i) (eVar k)) (eBin gIx (eVar j) (eVar q))) (eBin gMul (eBin gIx (eVar j) (eVar k)) (eBin gIx (eVar i) (eVar q)))) [k] ρ φ = .ok (row (red (own, p) h)) φ := by
  refine Eq.trans (b := O.ok (D.lst ((List.range 8).map fun t => D.int (gi h t * gi own p - gi own t * gi h p))) _) (lcm_ok (List.range 8) _ (fun t => D.int (gi h t * gi own p - gi own t * gi h p)) rg8 (by decide) fun t ht => ?_) ?_
  · have ht := List.mem_range.mp ht
    exact ⟨_, rfl, bin_ok (bin_ok (bin_ok (v_ok (hi _)) (v_ok (hk _)) (gi_get hh ht)) (bin_ok (v_ok (hj _)) (v_ok (hq _)) (gi_get ho hp)) (gMul_w (bw_gi h2 _) (bw_gi h1 _) hb)) (bin_ok (bin_ok (v_ok (hj _)) (v_ok (hk _)) (gi_get ho ht)) (bin_ok (v_ok (hi _)) (v_ok (hq _)) (gi_get hh hp)) (gMul_w (bw_gi h1 _) (bw_gi h2 _) hb)) rfl⟩
  · have e : red (own, p) h = (List.range 8).map fun t => gi h t * gi own p - gi own t * gi h p := by
      refine List.ext_getElem? fun t => ?_
      by_cases ht : t < 8
      · have l8 := red_len (c := (own, p)) ho hh
        have e1 : (red (own, p) h)[t]? = some (gi (red (own, p) h) t) := by unfold gi; rw [List.getD_eq_getElem?_getD, List.getElem?_eq_getElem (by omega)]; rfl
        rw [e1, gi_red ho hh ht, List.getElem?_map, List.getElem?_range ht]
        show some (gi own p * gi h t - gi h p * gi own t) = some (gi h t * gi own p - gi own t * gi h p)
        rw [Int.mul_comm (gi own p), Int.mul_comm (gi h p)]
      · rw [List.getElem?_eq_none (by rw [red_len ho hh]; omega), List.getElem?_eq_none (by simp; omega)]
    rw [e]
    unfold row
    rw [List.map_map]
    rfl
def bt (p : Nat) : Nat := 2 ^ (p + 2) - 1
theorem bt_succ (p : Nat) : bt p + bt p + 1 = bt (p + 1) := by
  unfold bt
  have e : 2 ^ (p + 1 + 2) = 2 ^ (p + 2) * 2 := by
    rw [show p + 1 + 2 = (p + 2) + 1 by omega]
    exact Nat.pow_succ _ _
  rw [e]
  have := Nat.two_pow_pos (p + 2)
  generalize 2 ^ (p + 2) = t at this ⊢
  omega
theorem bt_le {p : Nat} (h : p ≤ 8) : bt p ≤ 100000 := by
  have : bt p ≤ 2 ^ 10 := by unfold bt; have := Nat.pow_le_pow_right (n := 2) (by decide) (show p + 2 ≤ 10 by omega); omega
  omega
theorem find_filter {α : Type} (p : α → Bool) (l : List α) : l.find? p = (l.filter p).head? := by rw [List.head?_filter]
theorem gtz (n : Nat) : gGtA (.int (n : Int)) (.int 0) = some (.bl (decide ((0 : Int) < (n : Int)))) := rfl
theorem len_gtz {ρ : En} {φ : Fd} {A : SX} {l : List D} (h : A ρ φ = .ok (.lst l) φ) : bCmp gGtA (eCB gLen (aCons A aNil)) (eInt 0) ρ φ = .ok (!l.isEmpty) φ := by
  refine (cmp_ok (len_ok h) rfl (gtz l.length)).trans ?_
  cases l with
  | nil => rfl
  | cons a l => rw [decide_eq_true (by rw [List.length_cons]; omega)]; rfl
theorem popD_at {l : List D} {k : Nat} {y : D} (hk : l[k]? = some y) (hl : k < 1000000) : popD l (.int (k : Int)) = some (y, l.eraseIdx k) := by
  have hk2 : k < l.length := (List.getElem?_eq_some_iff.mp hk).1
  have e : seqIndex? (k : Int) l.length = some k := by
    have h0 : ¬ (k : Int) < 0 := by omega
    simp [seqIndex?, h0, hk2]
  unfold popD
  show (if _ then _ else _) = _
  rw [if_pos ⟨by omega, by omega⟩, e]
  show (l[k]?).map _ = _
  rw [hk]
  rfl
theorem popS_ok {i j : Nat} {A : SX} {ρ : En} {φ φ1 : Fd} {l l' : List D} {e y : D} (h : ρ[i]? = some (some (.lst l))) (hA : A ρ φ = .ok e φ1) (hp : popD l e = some (y, l')) : sPopS i j A ρ φ = .nx ((ρ.set i (some (.lst l'))).set j (some y)) φ1 := by
  unfold sPopS
  rw [h]
  show (A ρ φ).toR ρ _ = _
  rw [hA]
  show (match popD l e with | some (y, l') => R.nx ((ρ.set i (some (.lst l'))).set j (some y)) φ1 | none => .bad) = _
  rw [hp]
theorem popA_ok {i j : Nat} {A : SX} {ρ : En} {φ φ1 : Fd} {m l l' : List D} {e y : D} (hi : ρ[i]? = some (some (.lst m))) (h : ρ[j]? = some (some (.lst l))) (hA : A ρ φ = .ok e φ1) (hp : popD l e = some (y, l')) (hm : m.length < sizeLine) :
    sPopA i j A ρ φ = .nx ((ρ.set j (some (.lst l'))).set i (some (.lst (m ++ [y])))) φ1 := by
  unfold sPopA
  rw [hi, h]
  show (A ρ φ).toR ρ _ = _
  rw [hA]
  show (match popD l e with | some (y, l') => if m.length < sizeLine then R.nx ((ρ.set j (some (.lst l'))).set i (some (.lst (m ++ [y])))) φ1 else .bad | none => .bad) = _
  rw [hp]
  show (if _ then _ else _ : R) = _
  rw [if_pos hm]
theorem erase_map {α β : Type} (f : α → β) : ∀ (l : List α) (k : Nat), (l.map f).eraseIdx k = (l.eraseIdx k).map f
  | [], _ => rfl
  | _ :: _, 0 => rfl
  | a :: l, k + 1 => by rw [List.map_cons, List.eraseIdx_cons_succ, List.eraseIdx_cons_succ, List.map_cons, erase_map f l k]
end Pf

set_option Elab.async false
set_option linter.all false
set_option maxRecDepth 100000
set_option maxHeartbeats 1000000
namespace Pf
open PySem PySem.Spec PyProof.Rows L2
abbrev lb__law_rank_1 : SS := (sSeq (sSet 4 (eLc (iRg1 (aCons (eCB gLen (aCons (eVar 1) aNil)) aNil)) (tgN 7) (bCmp gNe (eBin gIx (eBin gIx (eVar 1) (eVar 7)) (eVar 3)) (eInt 0)) (eVar 7) [7])) (sSeq (sIf (bCmp gGtA (eCB gLen (aCons (eVar 4) aNil)) (eInt 0)) (sSeq (sPopS 1 5 (eBin gIx (eVar 4) (eInt 0))) (sSeq (sSet 1 (eLc (iSeq (eVar 1)) (tgN 6) bYes (eLc (iRg1 (aCons (eInt 8) aNil)) (tgN 7) bYes (eBin gSub (eBin gMul (eBin gIx (eVar 6) (eVar 7)) (eBin gIx (eVar 5) (eVar 3))) (eBin gMul (eBin gIx (eVar 5) (eVar 7)) (eBin gIx (eVar 6) (eVar 3)))) [7]) [6])) (sSeq (sAug 2 (fun i j => i + j) (eInt 1)) sNil))) sNil) sNil))
abbrev lb__law_clear_1 : SS := (sKeep (sSeq (sSet 3 (eCB gList (aCons (eVar 2) aNil))) (sSeq (sFor (iSeq (eVar 1)) (tgT 2 (tsCons (tgN 4) (tsCons (tgN 5) tsNil))) (sSeq (sSet 3 (eLc (iRg1 (aCons (eInt 8) aNil)) (tgN 7) bYes (eBin gSub (eBin gMul (eBin gIx (eVar 3) (eVar 7)) (eBin gIx (eVar 4) (eVar 5))) (eBin gMul (eBin gIx (eVar 4) (eVar 7)) (eBin gIx (eVar 3) (eVar 5)))) [7])) sNil)) (sSeq (sSet 6 (eLc (iRg1 (aCons (eInt 8) aNil)) (tgN 7) (bCmp gNe (eBin gIx (eVar 3) (eVar 7)) (eInt 0)) (eVar 7) [7])) sNil))) (sSeq (sIf (bCmp gGtA (eCB gLen (aCons (eVar 6) aNil)) (eInt 0)) (sSeq (sMut 1 gApp (eTup (aCons (eVar 3) (aCons (eBin gIx (eVar 6) (eInt 0)) aNil)))) sNil) sNil) sNil))
abbrev lb__law_clear_2 : SS := (sSeq (sSet 3 (eLc (iRg1 (aCons (eInt 8) aNil)) (tgN 7) bYes (eBin gSub (eBin gMul (eBin gIx (eVar 3) (eVar 7)) (eBin gIx (eVar 4) (eVar 5))) (eBin gMul (eBin gIx (eVar 4) (eVar 7)) (eBin gIx (eVar 3) (eVar 5)))) [7])) sNil)
abbrev lb__law_spanned_1 : SS := (sSeq (sSet 5 (eCB gList (aCons (eVar 4) aNil))) (sSeq (sFor (iSeq (eVar 2)) (tgT 2 (tsCons (tgN 6) (tsCons (tgN 7) tsNil))) (sSeq (sSet 5 (eLc (iRg1 (aCons (eInt 8) aNil)) (tgN 8) bYes (eBin gSub (eBin gMul (eBin gIx (eVar 5) (eVar 8)) (eBin gIx (eVar 6) (eVar 7))) (eBin gMul (eBin gIx (eVar 6) (eVar 8)) (eBin gIx (eVar 5) (eVar 7)))) [8])) sNil)) (sSeq (sAug 3 (fun i j => i + j) (eCB gInt (aCons (eBin gEq (eCB gLen (aCons (eLc (iSeq (eVar 5)) (tgN 9) (bCmp gNe (eVar 9) (eInt 0)) (eVar 9) [9]) aNil)) (eInt 0)) aNil))) sNil)))
abbrev lb__law_spanned_2 : SS := (sSeq (sSet 5 (eLc (iRg1 (aCons (eInt 8) aNil)) (tgN 8) bYes (eBin gSub (eBin gMul (eBin gIx (eVar 5) (eVar 8)) (eBin gIx (eVar 6) (eVar 7))) (eBin gMul (eBin gIx (eVar 6) (eVar 8)) (eBin gIx (eVar 5) (eVar 7)))) [8])) sNil)
theorem len_pos {ρ : En} {φ : Fd} {A : SX} {x : D} {l : List D} (h : A ρ φ = .ok (.lst (x :: l)) φ) : bCmp gGtA (eCB gLen (aCons A aNil)) (eInt 0) ρ φ = .ok true φ := len_gtz h
theorem pre_at {n : Nat} {pre post : List Nat} {x : Nat} (h : List.range n = pre ++ x :: post) : x = pre.length ∧ x < n := by
  have h1 : (List.range n)[pre.length]? = some x := by rw [h]; simp
  have h2 : pre.length < n := by
    have := congrArg List.length h
    rw [List.length_range, List.length_append, List.length_cons] at this
    omega
  rw [List.getElem?_range h2] at h1
  cases h1
  exact ⟨rfl, h2⟩
theorem rank_step {left : List (List Int)} {C : Cl} {p b : Nat} (hp : p < 8) (hl : left.length ≤ 1000) (hb : b ≤ 100000) (h : ∀ v ∈ left, bw b v ∧ v.length = 8) (φ : Fd) (rows : List (List Int)) (y4 y5 : Option D) : ∃ z4 z5,
    lb__law_rank_1 [some (rws rows), some (rws left), some (.int ((C.length : Nat) : Int)), some (.int (p : Int)), y4, y5, none, none] φ = .nx [some (rws rows), some (rws (rstep (left, C) p).1), some (.int (((rstep (left, C) p).2.length : Nat) : Int)), some (.int (p : Int)), z4, z5, none, none] φ := by
  have e4 : eLc (iRg1 (aCons (eCB gLen (aCons (eVar 1) aNil)) aNil)) (tgN 7) (bCmp gNe (eBin gIx (eBin gIx (eVar 1) (eVar 7)) (eVar 3)) (eInt 0)) (eVar 7) [7] [some (rws rows), some (rws left), some (.int ((C.length : Nat) : Int)), some (.int (p : Int)), y4, y5, none, none] φ =
      .ok (.lst (((List.range left.length).filter fun k => !decide (gi (gw left k) p = 0)).map fun (k : Nat) => D.int (k : Int))) φ :=
    lc_ok (List.range left.length) (fun (k : Nat) => D.int (k : Int)) (fun k => !decide (gi (gw left k) p = 0)) (fun (k : Nat) => D.int (k : Int)) (rg1_ok (n := left.length) (one_ok (cb1_ok (v_ok rfl) gLen_rows)) (by omega)) (size_le (by rw [List.length_range]; omega)) fun k hk => by
      have hk := List.mem_range.mp hk
      exact ⟨_, rfl, cmp_ok (bin_ok (bin_ok (v_ok rfl) (v_ok rfl) (gIx_rows hk)) (v_ok rfl) (gi_get (h _ (gw_mem hk)).2 hp)) rfl (ne_int _ _), fun _ => v_ok rfl⟩
  have ef : fitAt left p = ((List.range left.length).filter fun k => !decide (gi (gw left k) p = 0)).head? := find_filter _ _
  obtain ⟨F, hF⟩ : ∃ F, F = (List.range left.length).filter fun k => !decide (gi (gw left k) p = 0) := ⟨_, rfl⟩
  rw [← hF] at e4 ef
  cases F with
  | nil =>
    have er : rstep (left, C) p = (left, C) := by unfold rstep; rw [ef]; rfl
    rw [er]
    exact ⟨_, _, seq_nx (set_ok e4) (seq_one (if_skip (len_gtz (l := []) (v_ok rfl))))⟩
  | cons k F =>
    have er : rstep (left, C) p = ((left.eraseIdx k).map (red (gw left k, p)), C ++ [(gw left k, p)]) := by unfold rstep; rw [ef]; rfl
    have hk : k < left.length := by
      have : k ∈ (List.range left.length).filter fun k => !decide (gi (gw left k) p = 0) := by rw [← hF]; simp
      exact List.mem_range.mp (List.mem_filter.mp this).1
    obtain ⟨o1, o2⟩ := h _ (gw_mem hk)
    rw [er]
    have e1 : ∀ y4 : Option D, eLc (iSeq (eVar 1)) (tgN 6) bYes (eLc (iRg1 (aCons (eInt 8) aNil)) (tgN 7) bYes (eBin gSub (eBin gMul (eBin gIx (eVar 6) (eVar 7)) (eBin gIx (eVar 5) (eVar 3))) (eBin gMul (eBin gIx (eVar 5) (eVar 7)) (eBin gIx (eVar 6) (eVar 3)))) [7]) [6] [some (rws rows), some (rws (left.eraseIdx k)), some (.int ((C.length : Nat) : Int)), some (.int (p : Int)), y4, some (row (gw left k)), none, none] φ = .ok (rws ((left.eraseIdx k).map (red (gw left k, p)))) φ := fun y4 => by
      refine (lcm_ok (left.eraseIdx k) row (fun v => row (red (gw left k, p) v)) (seq_l (v_ok rfl)) (size_le (Nat.le_trans (List.length_eraseIdx_le _ _) (by omega))) fun v hv => ⟨_, rfl, red_ok o2 (h v (List.mem_of_mem_eraseIdx hv)).2 hp o1 (h v (List.mem_of_mem_eraseIdx hv)).1 hb (fun _ => rfl) (fun _ => rfl) (fun _ => rfl) (fun _ => rfl)⟩).trans ?_
      unfold rws
      rw [List.map_map]
      rfl
    have pop := popD_at (l := left.map row) (k := k) (y := row (gw left k)) (by rw [List.getElem?_map, gw_get hk]; rfl) (by omega)
    rw [erase_map] at pop
    refine ⟨some (.lst ((k :: F).map fun (k : Nat) => D.int (k : Int))), some (row (gw left k)), seq_nx (set_ok e4) (seq_one (if_yes (len_pos (v_ok rfl)) (seq_nx (popS_ok (l := left.map row) rfl (bin_ok (v_ok rfl) rfl (gIx_lst (k := 0) rfl)) pop) (seq_nx (set_ok (e1 _)) (seq_one ?_)))))⟩
    refine (aug_ok rfl rfl).trans ?_
    rw [List.length_append, List.length_singleton, Int.natCast_add]
    rfl
theorem rstep_len (st : List (List Int) × Cl) (p : Nat) : (rstep st p).1.length ≤ st.1.length := by
  unfold rstep
  split
  · rw [List.length_map]; exact List.length_eraseIdx_le _ _
  · omega
theorem rstep_bw {st : List (List Int) × Cl} {p b : Nat} (h : ∀ v ∈ st.1, bw b v ∧ v.length = 8) : ∀ v ∈ (rstep st p).1, bw (b + b + 1) v ∧ v.length = 8 := by
  unfold rstep
  cases e : fitAt st.1 p with
  | none => exact fun v hv => ⟨bw_mono (h v hv).1 (by omega), (h v hv).2⟩
  | some k =>
    intro v hv
    obtain ⟨u, hu, rfl⟩ := List.mem_map.mp hv
    obtain ⟨o1, o2⟩ := h _ (gw_mem (fitAt_some e).1)
    obtain ⟨u1, u2⟩ := h u (List.mem_of_mem_eraseIdx hu)
    exact ⟨red_bw o2 u2 o1 u1, red_len o2 u2⟩
theorem f_rank {rows : List (List Int)} (φ : Fd) (hl : rows.length ≤ 1000) (h : ∀ v ∈ rows, bw 3 v ∧ v.length = 8) : F__law_rank [rws rows] φ = .ok (.int ((((List.range 8).foldl rstep (rows, [])).2.length : Nat) : Int)) φ := by
  have e1 : eLc (iSeq (eVar 0)) (tgN 6) bYes (eCB gList (aCons (eVar 6) aNil)) [6] [some (rws rows), none, none, none, none, none, none, none] φ = .ok (rws rows) φ :=
    lcm_ok rows row row (seq_l (v_ok rfl)) (size_le (by omega)) fun v _ => ⟨_, rfl, cb1_ok (v_ok rfl) rfl⟩
  obtain ⟨ρ', h1, y3, y4, y5, rfl, _⟩ := for_inv (T := tgN 3) (φ := φ) (e := fun (k : Nat) => D.int (k : Int)) (B := lb__law_rank_1)
    (fun pre ρ => ∃ y3 y4 y5, ρ = [some (rws rows), some (rws (pre.foldl rstep (rows, [])).1), some (.int (((pre.foldl rstep (rows, [])).2.length : Nat) : Int)), y3, y4, y5, none, none] ∧ (∀ v ∈ (pre.foldl rstep (rows, [])).1, bw (bt pre.length) v ∧ v.length = 8) ∧ (pre.foldl rstep (rows, [])).1.length ≤ 1000) (List.range 8) []
    (ρ := [some (rws rows), some (rws rows), some (.int 0), none, none, none, none, none]) ⟨none, none, none, rfl, h, hl⟩ (by
    rintro pre p post ρ hp ⟨y3, y4, y5, rfl, hv, hn⟩
    rw [List.nil_append] at hp
    obtain ⟨rfl, hp8⟩ := pre_at hp
    obtain ⟨z4, z5, hst⟩ := rank_step (C := (pre.foldl rstep (rows, [])).2) hp8 hn (bt_le (by omega)) hv φ rows y4 y5
    refine ⟨_, rfl, _, .inl hst, some (.int (pre.length : Int)), z4, z5, ?_, ?_, ?_⟩
    · rw [List.foldl_append]; rfl
    · rw [List.foldl_append, List.length_append, List.length_singleton, ← bt_succ]
      exact rstep_bw hv
    · rw [List.foldl_append]
      exact Nat.le_trans (rstep_len _ _) hn)
  exact run_rt (seq_nx (set_ok e1) (seq_nx (set_ok rfl) (seq_nx (for_ok rg8 h1) (seq_rt (ret_ok (v_ok rfl))))))
/-! ## clearing -/
def cD (c : List Int × Nat) : D := .tup [row c.1, .int (c.2 : Int)]
def BC : Nat → Cl → Prop
  | _, [] => True
  | i, c :: C => (bw (bt i) c.1 ∧ c.1.length = 8 ∧ c.2 < 8) ∧ BC (i + 1) C
theorem BC_snoc {c : List Int × Nat} : ∀ {C : Cl} {i : Nat}, BC i C → bw (bt (i + C.length)) c.1 → c.1.length = 8 → c.2 < 8 → BC i (C ++ [c])
  | [], i, _, h, h8, hk => ⟨⟨h, h8, hk⟩, trivial⟩
  | d :: C, i, hC, h, h8, hk => ⟨hC.1, BC_snoc hC.2 (by rw [show i + 1 + C.length = i + (d :: C).length by rw [List.length_cons]; omega]; exact h) h8 hk⟩
theorem BC_split {c : List Int × Nat} {post : Cl} : ∀ {pre : Cl} {i : Nat}, BC i (pre ++ c :: post) → BC i pre ∧ bw (bt (i + pre.length)) c.1 ∧ c.1.length = 8 ∧ c.2 < 8
  | [], i, h => ⟨trivial, h.1⟩
  | d :: pre, i, h => by
    obtain ⟨h1, h2⟩ := BC_split (pre := pre) h.2
    rw [show i + 1 + pre.length = i + (d :: pre).length by rw [List.length_cons]; omega] at h2
    exact ⟨⟨h.1, h1⟩, h2⟩
theorem BC_rdc : ∀ {C : Cl} {i : Nat} {v : List Int}, BC i C → bw (bt i) v → v.length = 8 → bw (bt (i + C.length)) (rdc C v) ∧ (rdc C v).length = 8
  | [], i, v, _, h, h8 => ⟨h, h8⟩
  | c :: C, i, v, hC, h, h8 => by
    have h1 := red_bw (c := c) hC.1.2.1 h8 hC.1.1 h
    rw [bt_succ] at h1
    have := BC_rdc (C := C) (i := i + 1) (v := red c v) hC.2 h1 (red_len hC.1.2.1 h8)
    rw [show i + 1 + C.length = i + (c :: C).length by rw [List.length_cons]; omega] at this
    exact this
theorem bw_bt0 {v : List Int} (h : bw 3 v) (i : Nat) : bw (bt i) v := bw_mono h (by unfold bt; have := Nat.pow_le_pow_right (n := 2) (by decide) (show 2 ≤ i + 2 by omega); omega)
theorem in_clear {C : Cl} {v : List Int} (hC : BC 0 C) (hl : C.length ≤ 8) (hv : bw 3 v) (h8 : v.length = 8) (φ : Fd) (y0 : Option D) (y2 y4 y5 y6 : Option D) : ∃ z4 z5,
    forGo (tgT 2 (tsCons (tgN 4) (tsCons (tgN 5) tsNil))) lb__law_clear_2 (C.map cD) [y0, some (.lst (C.map cD)), y2, some (row v), y4, y5, y6, none] φ = .nx [y0, some (.lst (C.map cD)), y2, some (row (rdc C v)), z4, z5, y6, none] φ := by
  obtain ⟨ρ', h1, z4, z5, rfl⟩ := for_inv (T := tgT 2 (tsCons (tgN 4) (tsCons (tgN 5) tsNil))) (φ := φ) (e := cD) (B := lb__law_clear_2)
    (fun pre ρ => ∃ z4 z5, ρ = [y0, some (.lst (C.map cD)), y2, some (row (rdc pre v)), z4, z5, y6, none]) C [] (ρ := [y0, some (.lst (C.map cD)), y2, some (row v), y4, y5, y6, none]) ⟨y4, y5, rfl⟩ (by
    rintro pre c post ρ hp ⟨z4, z5, rfl⟩
    rw [List.nil_append] at hp
    obtain ⟨p1, p2, p3, p4⟩ := BC_split (pre := pre) (hp ▸ hC)
    obtain ⟨r1, r2⟩ := BC_rdc p1 (bw_bt0 hv 0) h8
    rw [Nat.zero_add] at p2 r1
    have hpl : pre.length ≤ 8 := by
      have := congrArg List.length hp
      rw [List.length_append, List.length_cons] at this
      omega
    refine ⟨_, rfl, _, .inl (seq_one (set_ok (red_ok (own := c.1) (p := c.2) p3 r2 p4 p2 r1 (bt_le hpl) (fun _ => rfl) (fun _ => rfl) (fun _ => rfl) (fun _ => rfl)))), some (row c.1), some (.int (c.2 : Int)), ?_⟩
    rw [rdc_snoc]
    rfl)
  exact ⟨z4, z5, h1⟩
theorem BC_step {C : Cl} {v : List Int} (hC : BC 0 C) (hv : bw 3 v) (h8 : v.length = 8) : BC 0 (cstep C v) := by
  unfold cstep
  cases e : fst (rdc C v) with
  | none => exact hC
  | some k =>
    obtain ⟨r1, r2⟩ := BC_rdc hC (bw_bt0 hv 0) h8
    exact BC_snoc hC r1 r2 (fst_some e).1
theorem f_clear {rows : List (List Int)} (φ : Fd) (hl : rows.length ≤ 8) (h : ∀ v ∈ rows, bw 3 v ∧ v.length = 8) : F__law_clear [rws rows] φ = .ok (.lst ((clr rows).map cD)) φ ∧ BC 0 (clr rows) := by
  obtain ⟨ρ', h1, y2, y3, y4, y5, y6, rfl, hB⟩ := for_inv (T := tgN 2) (φ := φ) (e := row) (B := lb__law_clear_1)
    (fun pre ρ => ∃ y2 y3 y4 y5 y6, ρ = [some (rws rows), some (.lst ((pre.foldl cstep []).map cD)), y2, y3, y4, y5, y6, none] ∧ BC 0 (pre.foldl cstep [])) rows []
    (ρ := [some (rws rows), some (.lst []), none, none, none, none, none, none]) ⟨none, none, none, none, none, rfl, trivial⟩ (by
    rintro pre v post ρ hp ⟨y2, y3, y4, y5, y6, rfl, hB⟩
    rw [List.nil_append] at hp
    obtain ⟨v1, v2⟩ := h v (by rw [hp]; simp)
    have hpl : (pre.foldl cstep []).length ≤ 7 := by
      have h2 := (cfold_len pre []).2
      have := congrArg List.length hp
      rw [List.length_append, List.length_cons] at this
      rw [List.length_nil] at h2
      omega
    obtain ⟨z4, z5, hin⟩ := in_clear hB (by omega) v1 v2 φ (some (rws rows)) (some (row v)) y4 y5 y6
    obtain ⟨r1, r2⟩ := BC_rdc hB (bw_bt0 v1 0) v2
    generalize hCC : pre.foldl cstep [] = C at hB hpl hin r1 r2 ⊢
    have e6 : eLc (iRg1 (aCons (eInt 8) aNil)) (tgN 7) (bCmp gNe (eBin gIx (eVar 3) (eVar 7)) (eInt 0)) (eVar 7) [7] [some (rws rows), some (.lst (C.map cD)), some (row v), some (row (rdc C v)), z4, z5, y6, none] φ = .ok (.lst (((List.range 8).filter fun k => !decide (gi (rdc C v) k = 0)).map fun (k : Nat) => D.int (k : Int))) φ :=
      lc_ok (List.range 8) (fun (k : Nat) => D.int (k : Int)) (fun k => !decide (gi (rdc C v) k = 0)) (fun (k : Nat) => D.int (k : Int)) rg8 (by decide) fun k hk => ⟨_, rfl, cmp_ok (bin_ok (v_ok rfl) (v_ok rfl) (gi_get r2 (List.mem_range.mp hk))) rfl (ne_int _ _), fun _ => v_ok rfl⟩
    have ef : fst (rdc C v) = ((List.range 8).filter fun k => !decide (gi (rdc C v) k = 0)).head? := find_filter _ _
    have hs := BC_step hB v1 v2
    refine ⟨_, rfl, ?_⟩
    rw [List.foldl_append, hCC]
    show ∃ ρ2, (_ ∨ _) ∧ ∃ y2 y3 y4 y5 y6, ρ2 = [some (rws rows), some (D.lst ((cstep C v).map cD)), y2, y3, y4, y5, y6, none] ∧ BC 0 (cstep C v)
    obtain ⟨F, hF⟩ : ∃ F, F = (List.range 8).filter fun k => !decide (gi (rdc C v) k = 0) := ⟨_, rfl⟩
    rw [← hF] at e6 ef
    have body : ∀ (y3 : Option D) (Q : SS) (r : R), Q [some (rws rows), some (.lst (C.map cD)), some (row v), some (row (rdc C v)), z4, z5, some (.lst (F.map fun (k : Nat) => D.int (k : Int))), none] φ = r → sKeep (sSeq (sSet 3 (eCB gList (aCons (eVar 2) aNil))) (sSeq (sFor (iSeq (eVar 1)) (tgT 2 (tsCons (tgN 4) (tsCons (tgN 5) tsNil))) lb__law_clear_2) (sSeq (sSet 6 (eLc (iRg1 (aCons (eInt 8) aNil)) (tgN 7) (bCmp gNe (eBin gIx (eVar 3) (eVar 7)) (eInt 0)) (eVar 7) [7])) sNil))) Q [some (rws rows), some (.lst (C.map cD)), some (row v), y3, y4, y5, y6, none] φ = r := fun y3 Q r hQ =>
      keep_nx (seq_nx (set_ok (cb1_ok (d := row v) (v_ok rfl) rfl)) (seq_nx (for_ok (seq_l (v_ok rfl)) hin) (seq_one (set_ok e6)))) hQ
    cases F with
    | nil =>
      have ec : cstep C v = C := by unfold cstep; rw [ef]; rfl
      rw [ec]
      exact ⟨_, .inl (body _ _ _ (seq_one (if_skip (len_gtz (l := []) (v_ok rfl))))), _, _, _, _, _, rfl, hB⟩
    | cons k F =>
      have ec : cstep C v = C ++ [(rdc C v, k)] := by unfold cstep; rw [ef]; rfl
      rw [ec] at hs ⊢
      refine ⟨_, .inl (body _ _ _ (seq_one (if_yes (len_pos (v_ok rfl)) (seq_one (app_ok (l := C.map cD) rfl (tup_ok (two_ok (v_ok rfl) (bin_ok (v_ok rfl) rfl (gIx_lst (k := 0) rfl))) (size_le (show 2 ≤ 1000000 by decide))) (size_lt (by rw [List.length_map]; omega))))))), some (row v), some (row (rdc C v)), z4, z5, some (.lst ((k :: F).map fun (k : Nat) => D.int (k : Int))), ?_, hs⟩
      rw [List.map_append]
      rfl)
  exact ⟨run_rt (seq_nx (set_ok rfl) (seq_nx (for_ok (seq_l (v_ok rfl)) h1) (seq_rt (ret_ok (v_ok rfl))))), hB⟩
end Pf

set_option Elab.async false
set_option linter.all false
set_option maxRecDepth 100000
set_option maxHeartbeats 1000000
namespace Pf
open PySem PySem.Spec PyProof.Rows L2
abbrev lb__law_signs_1 : SS := (sSeq (sFor (iRg2 (aCons (eBin gAdd (eVar 4) (eInt 1)) (aCons (eVar 1) aNil))) (tgN 5) (sSeq (sAug 3 (fun i j => i + j) (eCB gLen (aCons (eLc (iRg2 (aCons (eBin gAdd (eVar 5) (eInt 1)) (aCons (eVar 1) aNil))) (tgN 8) (bCmp gGtA (eBin gMul (eBin gMul (eBin gIx (eBin gIx (eVar 2) (eVar 4)) (eVar 5)) (eBin gIx (eBin gIx (eVar 2) (eVar 4)) (eVar 8))) (eBin gIx (eBin gIx (eVar 2) (eVar 5)) (eVar 8))) (eInt 0)) (eVar 8) [8]) aNil))) sNil)) sNil)
abbrev lb__law_signs_2 : SS := (sSeq (sAug 3 (fun i j => i + j) (eCB gLen (aCons (eLc (iRg2 (aCons (eBin gAdd (eVar 5) (eInt 1)) (aCons (eVar 1) aNil))) (tgN 8) (bCmp gGtA (eBin gMul (eBin gMul (eBin gIx (eBin gIx (eVar 2) (eVar 4)) (eVar 5)) (eBin gIx (eBin gIx (eVar 2) (eVar 4)) (eVar 8))) (eBin gIx (eBin gIx (eVar 2) (eVar 5)) (eVar 8))) (eInt 0)) (eVar 8) [8]) aNil))) sNil)
abbrev lb_even_triples_1 : SS := (sSeq (sFor (iRg1 (aCons (eVar 2) aNil)) (tgN 3) (sSeq (sAug 1 (fun i j => i + j) (eCB gLen (aCons (eLc (iRg1 (aCons (eVar 3) aNil)) (tgN 4) (bCmp gEq (eCall F_triple_sign (aCons (eVar 0) (aCons (eVar 4) (aCons (eVar 3) (aCons (eVar 2) aNil))))) (eInt 1)) (eVar 4) [4]) aNil))) sNil)) sNil)
abbrev lb_even_triples_2 : SS := (sSeq (sAug 1 (fun i j => i + j) (eCB gLen (aCons (eLc (iRg1 (aCons (eVar 3) aNil)) (tgN 4) (bCmp gEq (eCall F_triple_sign (aCons (eVar 0) (aCons (eVar 4) (aCons (eVar 3) (aCons (eVar 2) aNil))))) (eInt 1)) (eVar 4) [4]) aNil))) sNil)
/-! ## what rows span -/
theorem in_span {C : Cl} {v : List Int} (hC : BC 0 C) (hl : C.length ≤ 8) (hv : bw 3 v) (h8 : v.length = 8) (φ : Fd) (y0 y1 y3 y4 y6 y7 : Option D) : ∃ z6 z7,
    forGo (tgT 2 (tsCons (tgN 6) (tsCons (tgN 7) tsNil))) lb__law_spanned_2 (C.map cD) [y0, y1, some (.lst (C.map cD)), y3, y4, some (row v), y6, y7, none, none] φ = .nx [y0, y1, some (.lst (C.map cD)), y3, y4, some (row (rdc C v)), z6, z7, none, none] φ := by
  obtain ⟨ρ', h1, z6, z7, rfl⟩ := for_inv (T := tgT 2 (tsCons (tgN 6) (tsCons (tgN 7) tsNil))) (φ := φ) (e := cD) (B := lb__law_spanned_2)
    (fun pre ρ => ∃ z6 z7, ρ = [y0, y1, some (.lst (C.map cD)), y3, y4, some (row (rdc pre v)), z6, z7, none, none]) C [] (ρ := [y0, y1, some (.lst (C.map cD)), y3, y4, some (row v), y6, y7, none, none]) ⟨y6, y7, rfl⟩ (by
    rintro pre c post ρ hp ⟨z6, z7, rfl⟩
    rw [List.nil_append] at hp
    obtain ⟨p1, p2, p3, p4⟩ := BC_split (pre := pre) (hp ▸ hC)
    obtain ⟨r1, r2⟩ := BC_rdc p1 (bw_bt0 hv 0) h8
    rw [Nat.zero_add] at p2 r1
    have hpl : pre.length ≤ 8 := by
      have := congrArg List.length hp
      rw [List.length_append, List.length_cons] at this
      omega
    refine ⟨_, rfl, _, .inl (seq_one (set_ok (red_ok (own := c.1) (p := c.2) p3 r2 p4 p2 r1 (bt_le hpl) (fun _ => rfl) (fun _ => rfl) (fun _ => rfl) (fun _ => rfl)))), some (row c.1), some (.int (c.2 : Int)), ?_⟩
    rw [rdc_snoc]
    rfl)
  exact ⟨z6, z7, h1⟩
theorem gone_eq (C : Cl) (v : List Int) : decide (((((rdc C v).filter fun x => !decide (x = 0)).map D.int).length : Int) = 0) = gone C v := by
  unfold gone
  rw [List.length_map]
  cases h : (rdc C v).all fun x => decide (x = 0) with
  | true =>
    have : (rdc C v).filter (fun x => !decide (x = 0)) = [] := List.filter_eq_nil_iff.mpr fun a ha => by
      have := List.all_eq_true.mp h a ha
      simpa using this
    rw [this]
    rfl
  | false =>
    have : (rdc C v).filter (fun x => !decide (x = 0)) ≠ [] := fun e => by
      have h2 := List.filter_eq_nil_iff.mp e
      have : (rdc C v).all (fun x => decide (x = 0)) = true := List.all_eq_true.mpr fun a ha => by simpa using h2 a ha
      rw [h] at this
      cases this
    have h3 := List.length_pos_iff.mpr this
    exact decide_eq_false (by omega)
theorem f_spanned {rows lines : List (List Int)} (φ : Fd) (hl : rows.length ≤ 8) (h : ∀ v ∈ rows, bw 3 v ∧ v.length = 8) (h2 : ∀ v ∈ lines, bw 3 v ∧ v.length = 8) :
    F__law_spanned [rws rows, rws lines] φ = .ok (.tup [.int (((clr rows).length : Nat) : Int), .int ((lines.countP (gone (clr rows)) : Nat) : Int)]) φ := by
  obtain ⟨hc, hB⟩ := f_clear φ hl h
  have hcl : (clr rows).length ≤ 8 := by have := (cfold_len rows []).2; rw [List.length_nil] at this; unfold clr; omega
  obtain ⟨ρ', h1, y4, y5, y6, y7, rfl⟩ := for_inv (T := tgN 4) (φ := φ) (e := row) (B := lb__law_spanned_1)
    (fun pre ρ => ∃ y4 y5 y6 y7, ρ = [some (rws rows), some (rws lines), some (.lst ((clr rows).map cD)), some (.int ((pre.countP (gone (clr rows)) : Nat) : Int)), y4, y5, y6, y7, none, none]) lines []
    (ρ := [some (rws rows), some (rws lines), some (.lst ((clr rows).map cD)), some (.int 0), none, none, none, none, none, none]) ⟨none, none, none, none, rfl⟩ (by
    rintro pre v post ρ hp ⟨y4, y5, y6, y7, rfl⟩
    rw [List.nil_append] at hp
    obtain ⟨v1, v2⟩ := h2 v (by rw [hp]; simp)
    obtain ⟨z6, z7, hin⟩ := in_span hB hcl v1 v2 φ (some (rws rows)) (some (rws lines)) (some (.int ((pre.countP (gone (clr rows)) : Nat) : Int))) (some (row v)) y6 y7
    have r2 := (BC_rdc hB (bw_bt0 v1 0) v2).2
    have ea : eCB gInt (aCons (eBin gEq (eCB gLen (aCons (eLc (iSeq (eVar 5)) (tgN 9) (bCmp gNe (eVar 9) (eInt 0)) (eVar 9) [9]) aNil)) (eInt 0)) aNil) [some (rws rows), some (rws lines), some (.lst ((clr rows).map cD)), some (.int ((pre.countP (gone (clr rows)) : Nat) : Int)), some (row v), some (row (rdc (clr rows) v)), z6, z7, none, none] φ = .ok (.int (b2z (gone (clr rows) v))) φ :=
      cb1_ok (bin_ok (len_ok (lc_ok (rdc (clr rows) v) D.int (fun x => !decide (x = 0)) D.int (seq_l (v_ok rfl)) (size_le (by rw [r2]; decide)) fun x _ => ⟨_, rfl, cmp_ok (v_ok rfl) rfl (ne_int _ _), fun _ => v_ok rfl⟩)) rfl ((eq_int _ _).trans (by rw [gone_eq]))) rfl
    refine ⟨_, rfl, _, .inl (seq_nx (set_ok (cb1_ok (d := row v) (v_ok rfl) rfl)) (seq_nx (for_ok (seq_l (v_ok rfl)) hin) (seq_one (aug_ok rfl ea)))), some (row v), some (row (rdc (clr rows) v)), z6, z7, ?_⟩
    have e : (((pre ++ [v]).countP (gone (clr rows)) : Nat) : Int) = ((pre.countP (gone (clr rows)) : Nat) : Int) + b2z (gone (clr rows) v) := by
      rw [List.countP_append, List.countP_singleton, Int.natCast_add]
      cases gone (clr rows) v <;> rfl
    rw [e]
    rfl)
  exact run_rt (seq_nx (set_ok (call_ok (one_ok (v_ok rfl)) hc)) (seq_nx (set_ok rfl) (seq_nx (for_ok (seq_l (v_ok rfl)) h1) (seq_rt (ret_ok (tup_ok (two_ok (len_ok (v_ok rfl) |>.trans (by rw [List.length_map])) (v_ok rfl)) (size_le (show 2 ≤ 1000000 by decide))))))))
theorem f_most {n : Nat} (h : 1 ≤ n) (h7 : n ≤ 7) (φ : Fd) : F_most_at_angle [.int (n : Int)] φ = .ok (.int ((mostL n : Nat) : Int)) φ := by
  have : n = 1 ∨ n = 2 ∨ n = 3 ∨ n = 4 ∨ n = 5 ∨ n = 6 ∨ n = 7 := by omega
  rcases this with rfl | rfl | rfl | rfl | rfl | rfl | rfl <;> kernel_rfl
/-! ## triples -/
def tp (rows : List (List Int)) (i j k : Nat) : Int := dot (gw rows i) (gw rows j) * dot (gw rows i) (gw rows k) * dot (gw rows j) (gw rows k)
def Rs (rows : List (List Int)) : Prop := ∀ v ∈ rows, bd 6 v ∧ v.length = 8
theorem mulS_bd : ∀ {x y : List Int} {n m : Nat}, bd n x → bd m y → (mulS x y).natAbs ≤ x.length * (n * m)
  | [], y, _, _, _, _ => by cases y <;> simp [mulS]
  | _ :: _, [], _, _, _, _ => by simp [mulS]
  | a :: x, b :: y, n, m, hx, hy => by
    have ih := mulS_bd (x := x) (y := y) (fun u hu => hx u (List.mem_cons_of_mem _ hu)) (fun u hu => hy u (List.mem_cons_of_mem _ hu))
    have h1 : (a * b).natAbs ≤ n * m := by
      rw [Int.natAbs_mul]
      exact Nat.mul_le_mul (hx a List.mem_cons_self) (hy b List.mem_cons_self)
    rw [mulS_cons, List.length_cons, Nat.succ_mul]
    have := Int.natAbs_add_le (a * b) (mulS x y)
    omega
theorem dot_bd6 {x y : List Int} (hx : bd 6 x ∧ x.length = 8) (hy : bd 6 y ∧ y.length = 8) : (dot x y).natAbs ≤ 288 := by
  have h := mulS_bd hx.1 hy.1
  rw [hx.2] at h
  unfold dot
  rw [Int.fdiv_eq_ediv_of_nonneg _ (by decide)]
  omega
theorem bd6_rw {x : List Int} (hx : bd 6 x ∧ x.length = 8) : Rw x := bd_rw hx.1 (by decide) hx.2
theorem tp_ok {rows : List (List Int)} (R : Rs rows) {i j k : Nat} (hi : i < rows.length) (hj : j < rows.length) (hk : k < rows.length) {ρ : En} {φ : Fd} {A B C : SX} (ha : A ρ φ = .ok (.int (dot (gw rows i) (gw rows j))) φ) (hb : B ρ φ = .ok (.int (dot (gw rows i) (gw rows k))) φ) (hc : C ρ φ = .ok (.int (dot (gw rows j) (gw rows k))) φ) :
    eBin gMul (eBin gMul A B) C ρ φ = .ok (.int (tp rows i j k)) φ := by
  have b1 := dot_bd6 (R _ (gw_mem hi)) (R _ (gw_mem hj))
  have b2 := dot_bd6 (R _ (gw_mem hi)) (R _ (gw_mem hk))
  have b3 : (dot (gw rows i) (gw rows j) * dot (gw rows i) (gw rows k)).natAbs ≤ 288 * 288 := by rw [Int.natAbs_mul]; exact Nat.mul_le_mul b1 b2
  exact bin_ok (bin_ok ha hb (gMul_ok' (by omega))) hc (gMul_ok' (by omega))
def sgn3 (rows : List (List Int)) (i j k : Nat) : Int := if 0 < tp rows i j k then 1 else -1
theorem f_tsign {rows : List (List Int)} (R : Rs rows) {i j k : Nat} (hi : i < rows.length) (hj : j < rows.length) (hk : k < rows.length) (φ : Fd) : F_triple_sign [rws rows, .int (i : Int), .int (j : Int), .int (k : Int)] φ = .ok (.int (sgn3 rows i j k)) φ := by
  have p : ∀ {a b : Nat} {ia ib : Nat} {ρ : En}, a < rows.length → b < rows.length → ρ[0]? = some (some (rws rows)) → ρ[ia]? = some (some (.int (a : Int))) → ρ[ib]? = some (some (.int (b : Int))) → eCall F_row_product (aCons (eBin gIx (eVar 0) (eVar ia)) (aCons (eBin gIx (eVar 0) (eVar ib)) aNil)) ρ φ = .ok (.int (dot (gw rows a) (gw rows b))) φ := fun {a b ia ib ρ} ha hb h0 h1 h2 =>
    call_ok (two_ok (bin_ok (v_ok h0) (v_ok h1) (gIx_rows ha)) (bin_ok (v_ok h0) (v_ok h2) (gIx_rows hb))) (f_product φ (bd6_rw (R _ (gw_mem ha))).2 (by rw [(R _ (gw_mem ha)).2]; decide))
  have e4 := tp_ok R hi hj hk (ρ := [some (rws rows), some (.int (i : Int)), some (.int (j : Int)), some (.int (k : Int)), none]) (φ := φ) (p (ia := 1) (ib := 2) hi hj rfl rfl rfl) (p (ia := 1) (ib := 3) hi hk rfl rfl rfl) (p (ia := 2) (ib := 3) hj hk rfl rfl rfl)
  unfold sgn3
  by_cases h : 0 < tp rows i j k
  · rw [if_pos h]
    exact run_rt (seq_nx (set_ok e4) (seq_rt (if_yes (cmp_ok (v_ok rfl) rfl (show _ = some (D.bl (decide (0 < tp rows i j k))) from rfl) |>.trans (by rw [decide_eq_true h])) (seq_rt (ret_ok rfl)))))
  · rw [if_neg h]
    exact run_rt (seq_nx (set_ok e4) (seq_nx (if_skip (cmp_ok (v_ok rfl) rfl (show _ = some (D.bl (decide (0 < tp rows i j k))) from rfl) |>.trans (by rw [decide_eq_false h]))) (seq_rt (ret_ok rfl))))
/-! ### counted in two ways -/
def P3 (rows : List (List Int)) (i j k : Nat) : Bool := decide (0 < tp rows i j k)
def ET (P : Nat → Nat → Nat → Bool) (n : Nat) : Nat := ((List.range n).map fun k => ((List.range k).map fun j => ((List.range j).filter fun i => P i j k).length).sum).sum
def LS (P : Nat → Nat → Nat → Bool) (n : Nat) : Nat := ((List.range n).map fun i => ((rg (i + 1) n).map fun j => ((rg (j + 1) n).filter fun k => P i j k).length).sum).sum
theorem rg_self (n : Nat) : rg (n + 1) (n + 1) = [] := by unfold rg; rw [Nat.sub_self]; rfl
theorem rg_snoc {i n : Nat} (h : i < n) : rg (i + 1) (n + 1) = rg (i + 1) n ++ [n] := by
  unfold rg
  rw [show n + 1 - (i + 1) = (n - (i + 1)) + 1 by omega, List.range_succ, List.map_append, List.map_singleton, show i + 1 + (n - (i + 1)) = n by omega]
theorem sum_add {α : Type} (f g : α → Nat) (l : List α) : (l.map fun x => f x + g x).sum = (l.map f).sum + (l.map g).sum := by
  induction l with
  | nil => rfl
  | cons x l ih => simp only [List.map_cons, List.sum_cons, ih]; omega
theorem sum_ind {α : Type} (p : α → Bool) (l : List α) : (l.map fun x => if p x = true then 1 else 0).sum = (l.filter p).length := by
  induction l with
  | nil => rfl
  | cons x l ih =>
    rw [List.map_cons, List.sum_cons, ih, List.filter_cons]
    by_cases h : p x = true
    · rw [if_pos h, if_pos h, List.length_cons]; omega
    · rw [if_neg h, if_neg h]; omega
theorem pair_two (Q : Nat → Nat → Bool) : ∀ n, ((List.range n).map fun j => ((List.range j).filter fun i => Q i j).length).sum = ((List.range n).map fun i => ((rg (i + 1) n).filter fun j => Q i j).length).sum
  | 0 => rfl
  | n + 1 => by
    have ih := pair_two Q n
    rw [List.range_succ, List.map_append, List.sum_append, List.map_append, List.sum_append, ih, List.map_singleton, List.map_singleton, rg_self]
    have e : (List.range n).map (fun i => ((rg (i + 1) (n + 1)).filter fun j => Q i j).length) = (List.range n).map fun i => ((rg (i + 1) n).filter fun j => Q i j).length + (if Q i n = true then 1 else 0) := List.map_congr_left fun i hi => by
      rw [rg_snoc (List.mem_range.mp hi), List.filter_append, List.length_append]
      congr 1
      by_cases h : Q i n = true <;> simp [h]
    rw [e, sum_add, sum_ind]
    simp
theorem triple_two (P : Nat → Nat → Nat → Bool) : ∀ n, ET P n = LS P n
  | 0 => rfl
  | n + 1 => by
    have ih := triple_two P n
    unfold ET LS at ih ⊢
    rw [List.range_succ, List.map_append, List.sum_append, List.map_append, List.sum_append, ih, List.map_singleton, List.map_singleton, rg_self]
    have e : (List.range n).map (fun i => ((rg (i + 1) (n + 1)).map fun j => ((rg (j + 1) (n + 1)).filter fun k => P i j k).length).sum) =
        (List.range n).map fun i => ((rg (i + 1) n).map fun j => ((rg (j + 1) n).filter fun k => P i j k).length).sum + ((rg (i + 1) n).filter fun j => P i j n).length := List.map_congr_left fun i hi => by
      have e2 : (rg (i + 1) n).map (fun j => ((rg (j + 1) (n + 1)).filter fun k => P i j k).length) = (rg (i + 1) n).map fun j => ((rg (j + 1) n).filter fun k => P i j k).length + (if P i j n = true then 1 else 0) := List.map_congr_left fun j hj => by
        rw [rg_snoc (rg_mem.mp hj).2, List.filter_append, List.length_append]
        congr 1
        by_cases h : P i j n = true <;> simp [h]
      rw [rg_snoc (List.mem_range.mp hi), List.map_append, List.sum_append, List.map_singleton, rg_self, e2, sum_add, sum_ind]
      simp
    rw [e, sum_add, ← pair_two fun i j => P i j n]
    simp
theorem f_trip {rows : List (List Int)} (R : Rs rows) (hl : rows.length ≤ 1000) (φ : Fd) : F_even_triples [rws rows] φ = .ok (.int ((ET (P3 rows) rows.length : Nat) : Int)) φ := by
  have inner : ∀ (k : Nat), k < rows.length → ∀ (t : Nat) (y3 : Option D), ∃ z3, forGo (tgN 3) lb_even_triples_2 ((List.range k).map fun (j : Nat) => D.int (j : Int)) [some (rws rows), some (.int (t : Int)), some (.int (k : Int)), y3, none] φ =
      .nx [some (rws rows), some (.int ((t + ((List.range k).map fun j => ((List.range j).filter fun i => P3 rows i j k).length).sum : Nat) : Int)), some (.int (k : Int)), z3, none] φ := by
    intro k hk t y3
    obtain ⟨ρ', h1, z3, rfl⟩ := for_inv (T := tgN 3) (φ := φ) (e := fun (j : Nat) => D.int (j : Int)) (B := lb_even_triples_2)
      (fun pre ρ => ∃ z3, ρ = [some (rws rows), some (.int ((t + (pre.map fun j => ((List.range j).filter fun i => P3 rows i j k).length).sum : Nat) : Int)), some (.int (k : Int)), z3, none]) (List.range k) [] (ρ := [some (rws rows), some (.int (t : Int)), some (.int (k : Int)), y3, none]) ⟨y3, rfl⟩ (by
      rintro pre j post ρ hp ⟨z3, rfl⟩
      rw [List.nil_append] at hp
      have hj := (pre_at hp).2
      have ec : eLc (iRg1 (aCons (eVar 3) aNil)) (tgN 4) (bCmp gEq (eCall F_triple_sign (aCons (eVar 0) (aCons (eVar 4) (aCons (eVar 3) (aCons (eVar 2) aNil))))) (eInt 1)) (eVar 4) [4] [some (rws rows), some (.int ((t + (pre.map fun j => ((List.range j).filter fun i => P3 rows i j k).length).sum : Nat) : Int)), some (.int (k : Int)), some (.int (j : Int)), none] φ = .ok (.lst (((List.range j).filter fun i => P3 rows i j k).map fun (i : Nat) => D.int (i : Int))) φ :=
        lc_ok (List.range j) (fun (i : Nat) => D.int (i : Int)) (fun i => P3 rows i j k) (fun (i : Nat) => D.int (i : Int)) (rg1_ok (n := j) (one_ok (v_ok rfl)) (by omega)) (size_le (by rw [List.length_range]; omega)) fun i hi => by
          have hi := List.mem_range.mp hi
          refine ⟨_, rfl, cmp_ok (call_ok (cons_ok (v_ok rfl) (cons_ok (v_ok rfl) (two_ok (v_ok rfl) (v_ok rfl)))) (f_tsign R (i := i) (by omega) (by omega) hk φ)) rfl ((eq_int _ _).trans ?_), fun _ => v_ok rfl⟩
          unfold sgn3 P3
          by_cases h : 0 < tp rows i j k <;> simp [h]
      refine ⟨_, rfl, _, .inl (seq_one (aug_ok rfl (len_ok ec))), some (.int (j : Int)), ?_⟩
      rw [List.map_append, List.sum_append, List.map_singleton, List.length_map]
      have : ((t + ((pre.map fun j => ((List.range j).filter fun i => P3 rows i j k).length).sum + [((List.range j).filter fun i => P3 rows i j k).length].sum) : Nat) : Int) = ((t + (pre.map fun j => ((List.range j).filter fun i => P3 rows i j k).length).sum : Nat) : Int) + ((((List.range j).filter fun i => P3 rows i j k).length : Nat) : Int) := by
        simp
        omega
      rw [this]
      rfl)
    exact ⟨z3, h1⟩
  obtain ⟨ρ', h1, y2, y3, rfl⟩ := for_inv (T := tgN 2) (φ := φ) (e := fun (k : Nat) => D.int (k : Int)) (B := lb_even_triples_1)
    (fun pre ρ => ∃ y2 y3, ρ = [some (rws rows), some (.int (((pre.map fun k => ((List.range k).map fun j => ((List.range j).filter fun i => P3 rows i j k).length).sum).sum : Nat) : Int)), y2, y3, none]) (List.range rows.length) [] (ρ := [some (rws rows), some (.int 0), none, none, none]) ⟨none, none, rfl⟩ (by
    rintro pre k post ρ hp ⟨y2, y3, rfl⟩
    rw [List.nil_append] at hp
    have hk := (pre_at hp).2
    obtain ⟨z3, hin⟩ := inner k hk (pre.map fun k => ((List.range k).map fun j => ((List.range j).filter fun i => P3 rows i j k).length).sum).sum y3
    refine ⟨_, rfl, _, .inl (seq_one (for_ok (rg1_ok (n := k) (one_ok (v_ok rfl)) (by omega)) hin)), some (.int (k : Int)), z3, ?_⟩
    rw [List.map_append, List.sum_append, List.map_singleton, List.sum_singleton])
  exact run_rt (seq_nx (set_ok rfl) (seq_nx (for_ok (rg1_ok (n := rows.length) (one_ok (cb1_ok (v_ok rfl) gLen_rows)) (by omega)) h1) (seq_rt (ret_ok (v_ok rfl)))))
end Pf

set_option Elab.async false
set_option linter.all false
set_option maxRecDepth 100000
set_option maxHeartbeats 1000000
namespace Pf
open PySem PySem.Spec PyProof.Rows L2
abbrev lb__law_chosen_1 : SS := (sSeq (sSet 9 (eLc (iSeq (eVar 6)) (tgN 11) (bCmp gEq (eLc (iSeq (eVar 4)) (tgN 12) bYes (eCall F__law_dot (aCons (eVar 11) (aCons (eVar 12) aNil))) [12]) (eVar 8)) (eVar 11) [11])) (sSeq (sIf (bCmp gEq (eCB gLen (aCons (eVar 9) aNil)) (eInt 0)) (sSeq (sRet eNon) sNil) sNil) (sSeq (sMut 4 gApp (eBin gIx (eVar 9) (eCall F__law_draw (aCons (eVar 0) (aCons (eCB gLen (aCons (eVar 9) aNil)) aNil))))) (sSeq (sSet 10 (eLc (iSeq (eVar 3)) (tgN 11) (bCmp gEq (eCB gLen (aCons (eLc (iSeq (eVar 4)) (tgN 12) (bCmp gNe (eCall F__law_dot (aCons (eVar 11) (aCons (eVar 12) aNil))) (eInt 0)) (eVar 12) [12]) aNil)) (eInt 0)) (eVar 11) [11])) (sSeq (sMut 5 gApp (eCB gLen (aCons (eVar 10) aNil))) sNil)))))
/-! ## the law's count of triples -/
def TBD (rows : List (List Int)) : D := .lst (rows.map fun v => row (rows.map (dot v)))
theorem TBD_get {rows : List (List Int)} {i j : Nat} (hi : i < rows.length) (hj : j < rows.length) {ρ : En} {φ : Fd} {a b : Nat} (h2 : ρ[2]? = some (some (TBD rows))) (ha : ρ[a]? = some (some (.int (i : Int)))) (hb : ρ[b]? = some (some (.int (j : Int)))) :
    eBin gIx (eBin gIx (eVar 2) (eVar a)) (eVar b) ρ φ = .ok (.int (dot (gw rows i) (gw rows j))) φ := by
  refine bin_ok (bin_ok (v_ok h2) (v_ok ha) (gIx_lst (x := row (rows.map (dot (gw rows i)))) ?_)) (v_ok hb) (gIx_row ?_)
  · rw [List.getElem?_map, gw_get hi]; rfl
  · rw [List.getElem?_map, gw_get hj]; rfl
theorem f_signs {rows : List (List Int)} (R : Rs rows) (hl : rows.length ≤ 1000) (φ : Fd) : F__law_signs [rws rows] φ = .ok (.int ((LS (P3 rows) rows.length : Nat) : Int)) φ := by
  have hn := rows.length
  have e2 : eLc (iSeq (eVar 0)) (tgN 6) bYes (eLc (iSeq (eVar 0)) (tgN 7) bYes (eCall F__law_dot (aCons (eVar 6) (aCons (eVar 7) aNil))) [7]) [6] [some (rws rows), some (.int (rows.length : Int)), none, none, none, none, none, none, none] φ = .ok (TBD rows) φ :=
    lcm_ok rows row (fun v => row (rows.map (dot v))) (seq_l (v_ok rfl)) (size_le (by omega)) fun v hv => ⟨_, rfl, (lcm_ok rows row (fun u => D.int (dot v u)) (seq_l (v_ok rfl)) (size_le (by omega)) fun u hu => ⟨_, rfl, call_ok (two_ok (v_ok rfl) (v_ok rfl)) (f_ldot φ (bd6_rw (R v hv)) (bd6_rw (R u hu)))⟩).trans (by unfold row; rw [List.map_map]; rfl)⟩
  have inner : ∀ (i : Nat), i < rows.length → ∀ (t : Nat) (y5 : Option D), ∃ z5, forGo (tgN 5) lb__law_signs_2 ((rg (i + 1) rows.length).map fun (j : Nat) => D.int (j : Int)) [some (rws rows), some (.int (rows.length : Int)), some (TBD rows), some (.int (t : Int)), some (.int (i : Int)), y5, none, none, none] φ =
      .nx [some (rws rows), some (.int (rows.length : Int)), some (TBD rows), some (.int ((t + ((rg (i + 1) rows.length).map fun j => ((rg (j + 1) rows.length).filter fun k => P3 rows i j k).length).sum : Nat) : Int)), some (.int (i : Int)), z5, none, none, none] φ := by
    intro i hi t y5
    obtain ⟨ρ', h1, z5, rfl⟩ := for_inv (T := tgN 5) (φ := φ) (e := fun (j : Nat) => D.int (j : Int)) (B := lb__law_signs_2)
      (fun pre ρ => ∃ z5, ρ = [some (rws rows), some (.int (rows.length : Int)), some (TBD rows), some (.int ((t + (pre.map fun j => ((rg (j + 1) rows.length).filter fun k => P3 rows i j k).length).sum : Nat) : Int)), some (.int (i : Int)), z5, none, none, none]) (rg (i + 1) rows.length) []
      (ρ := [some (rws rows), some (.int (rows.length : Int)), some (TBD rows), some (.int (t : Int)), some (.int (i : Int)), y5, none, none, none]) ⟨y5, rfl⟩ (by
      rintro pre j post ρ hp ⟨z5, rfl⟩
      rw [List.nil_append] at hp
      have hj : j ∈ rg (i + 1) rows.length := by rw [hp]; simp
      have hj := rg_mem.mp hj
      have ec : eLc (iRg2 (aCons (eBin gAdd (eVar 5) (eInt 1)) (aCons (eVar 1) aNil))) (tgN 8) (bCmp gGtA (eBin gMul (eBin gMul (eBin gIx (eBin gIx (eVar 2) (eVar 4)) (eVar 5)) (eBin gIx (eBin gIx (eVar 2) (eVar 4)) (eVar 8))) (eBin gIx (eBin gIx (eVar 2) (eVar 5)) (eVar 8))) (eInt 0)) (eVar 8) [8]
          [some (rws rows), some (.int (rows.length : Int)), some (TBD rows), some (.int ((t + (pre.map fun j => ((rg (j + 1) rows.length).filter fun k => P3 rows i j k).length).sum : Nat) : Int)), some (.int (i : Int)), some (.int (j : Int)), none, none, none] φ = .ok (.lst (((rg (j + 1) rows.length).filter fun k => P3 rows i j k).map fun (k : Nat) => D.int (k : Int))) φ :=
        lc_ok (rg (j + 1) rows.length) (fun (k : Nat) => D.int (k : Int)) (fun k => P3 rows i j k) (fun (k : Nat) => D.int (k : Int)) (rg_ok (a := j + 1) (n := rows.length) (two_ok (bin_ok (v_ok rfl) rfl rfl) (v_ok rfl)) (by omega) (by omega)) (size_le (by rw [rg_len]; omega)) fun k hk => by
          have hk := rg_mem.mp hk
          refine ⟨_, rfl, cmp_ok (tp_ok R hi hj.2 hk.2 (TBD_get hi hj.2 rfl rfl rfl) (TBD_get hi hk.2 rfl rfl rfl) (TBD_get hj.2 hk.2 rfl rfl rfl)) rfl rfl, fun _ => v_ok rfl⟩
      refine ⟨_, rfl, _, .inl (seq_one (aug_ok rfl (len_ok ec))), some (.int (j : Int)), ?_⟩
      rw [List.map_append, List.sum_append, List.map_singleton, List.length_map]
      have : ((t + ((pre.map fun j => ((rg (j + 1) rows.length).filter fun k => P3 rows i j k).length).sum + [((rg (j + 1) rows.length).filter fun k => P3 rows i j k).length].sum) : Nat) : Int) = ((t + (pre.map fun j => ((rg (j + 1) rows.length).filter fun k => P3 rows i j k).length).sum : Nat) : Int) + ((((rg (j + 1) rows.length).filter fun k => P3 rows i j k).length : Nat) : Int) := by
        simp
        omega
      rw [this]
      rfl)
    exact ⟨z5, h1⟩
  obtain ⟨ρ', h1, y4, y5, rfl⟩ := for_inv (T := tgN 4) (φ := φ) (e := fun (i : Nat) => D.int (i : Int)) (B := lb__law_signs_1)
    (fun pre ρ => ∃ y4 y5, ρ = [some (rws rows), some (.int (rows.length : Int)), some (TBD rows), some (.int (((pre.map fun i => ((rg (i + 1) rows.length).map fun j => ((rg (j + 1) rows.length).filter fun k => P3 rows i j k).length).sum).sum : Nat) : Int)), y4, y5, none, none, none]) (List.range rows.length) []
    (ρ := [some (rws rows), some (.int (rows.length : Int)), some (TBD rows), some (.int 0), none, none, none, none, none]) ⟨none, none, rfl⟩ (by
    rintro pre i post ρ hp ⟨y4, y5, rfl⟩
    rw [List.nil_append] at hp
    have hi := (pre_at hp).2
    obtain ⟨z5, hin⟩ := inner i hi (pre.map fun i => ((rg (i + 1) rows.length).map fun j => ((rg (j + 1) rows.length).filter fun k => P3 rows i j k).length).sum).sum y5
    refine ⟨_, rfl, _, .inl (seq_one (for_ok (rg_ok (a := i + 1) (n := rows.length) (two_ok (bin_ok (v_ok rfl) rfl rfl) (v_ok rfl)) (by omega) (by omega)) hin)), some (.int (i : Int)), z5, ?_⟩
    rw [List.map_append, List.sum_append, List.map_singleton, List.sum_singleton])
  exact run_rt (seq_nx (set_ok (cb1_ok (v_ok rfl) gLen_rows)) (seq_nx (set_ok e2) (seq_nx (set_ok rfl) (seq_nx (for_ok (rg1_ok (n := rows.length) (one_ok (v_ok rfl)) (by omega)) h1) (seq_rt (ret_ok (v_ok rfl)))))))
/-! ## roots chosen -/
def OW (r : List Int) : List (List Int) := RT.filter fun x => decide (dot x r = 0)
theorem fit_own (r : List Int) (cs : List (List Int)) (W : List Int) : (OW r).filter (fun x => decide (cs.map (dot x) = W)) = fit (r :: cs) (0 :: W) := by
  unfold OW fit
  rw [List.filter_filter]
  refine List.filter_congr fun x _ => ?_
  rw [List.map_cons]
  rw [Bool.eq_iff_iff]
  simp
  exact And.comm
theorem dot_zero {x y : List Int} (hx : Lat x) (hy : Lat y) : dot x y = 0 ↔ mulS x y = 0 := by have := hx.dot hy; omega
theorem free_len {r : List Int} (hr : r ∈ RT) {cs : List (List Int)} (hc : ∀ c ∈ cs, c ∈ RT ∧ dot c r = 0) : 2 * ((LN r).filter fun v => cs.all fun c => decide (dot v c = 0)).length = fr2 (r :: cs) := by
  have e : ∀ x ∈ N28 r, (cs.all fun c => decide (dot (line r x) c = 0)) = cs.all fun c => decide (dot x c = 0) := fun x hx => by
    have hx1 := (N1_mem.mp (N28_mem hx).1).1
    rw [Bool.eq_iff_iff, List.all_eq_true, List.all_eq_true]
    refine forall_congr' fun c => forall_congr' fun hcm => ?_
    obtain ⟨c1, c2⟩ := hc c hcm
    rw [decide_eq_true_eq, decide_eq_true_eq, dot_zero (line_lat hr hx1) (RT_lat c1), dot_zero (RT_lat hx1) (RT_lat c1), mulS_line (by rw [RT_l8 hr, RT_l8 hx1])]
    have := (dot_zero (RT_lat c1) (RT_lat hr)).mp c2
    rw [mulS_comm] at this
    omega
  have h1 : ((LN r).filter fun v => cs.all fun c => decide (dot v c = 0)).length = (N28 r).countP fun x => cs.all fun c => decide (dot x c = 0) := by
    unfold LN
    rw [← List.countP_eq_length_filter, List.countP_map]
    exact List.countP_congr fun x hx => by
      show (cs.all fun c => decide (dot (line r x) c = 0)) = true ↔ _
      rw [e x hx]
  rw [h1, N28_half hr _ fun x hx => ?_]
  · unfold fr2 N1
    rw [List.countP_filter]
    refine List.countP_congr fun x _ => ?_
    show _ ↔ (decide (dot r x = 1) && cs.all fun c => decide (dot x c = 0)) = true
    rw [Bool.and_comm]
  · have hx1 := (N1_mem.mp hx).1
    rw [Bool.eq_iff_iff, List.all_eq_true, List.all_eq_true]
    refine forall_congr' fun c => forall_congr' fun hcm => ?_
    obtain ⟨c1, c2⟩ := hc c hcm
    have l : r.length = x.length := by rw [RT_l8 hr, RT_l8 hx1]
    rw [decide_eq_true_eq, decide_eq_true_eq, dot_zero ((RT_lat hr).less 1 (RT_lat hx1)) (RT_lat c1), dot_zero (RT_lat hx1) (RT_lat c1), mulS_less 1 l]
    have := (dot_zero (RT_lat c1) (RT_lat hr)).mp c2
    rw [mulS_comm] at this
    omega
theorem none_zero (cs : List (List Int)) (v : List Int) : decide (((((cs.filter fun c => !decide (dot v c = 0)).map row).length : Nat) : Int) = 0) = cs.all fun c => decide (dot v c = 0) := by
  rw [List.length_map]
  cases h : cs.all fun c => decide (dot v c = 0) with
  | true =>
    have : cs.filter (fun c => !decide (dot v c = 0)) = [] := List.filter_eq_nil_iff.mpr fun a ha => by
      have := List.all_eq_true.mp h a ha
      simpa using this
    rw [this]
    rfl
  | false =>
    have : cs.filter (fun c => !decide (dot v c = 0)) ≠ [] := fun e => by
      have h2 := List.filter_eq_nil_iff.mp e
      have : cs.all (fun c => decide (dot v c = 0)) = true := List.all_eq_true.mpr fun a ha => by simpa using h2 a ha
      rw [h] at this
      cases this
    have h3 := List.length_pos_iff.mpr this
    exact decide_eq_false (by omega)
theorem ch_step {r : List Int} (hr : r ∈ RT) {cs : List (List Int)} {W : List Int} {m : Nat} (hc : ∀ c ∈ cs, c ∈ RT ∧ dot c r = 0) (hl : cs.length ≤ 10) (hf : fit (r :: cs) (0 :: W) ≠ []) (hm : ∀ x ∈ fit (r :: cs) (0 :: W), fr2 (r :: (cs ++ [x])) = 2 * m) (cnt : List Int) (hcl : cnt.length ≤ 10) (φ : Fd) (ht : 0 ≤ φ.told) (y7 y9 y10 : Option D) :
    ∃ x φ' z9 z10, x ∈ fit (r :: cs) (0 :: W) ∧ 0 ≤ φ'.told ∧ lb__law_chosen_1 [some .feed, some (rws RT), some (row r), some (rws (LN r)), some (rws cs), some (row cnt), some (rws (OW r)), y7, some (row W), y9, y10, none, none] φ =
      .nx [some .feed, some (rws RT), some (row r), some (rws (LN r)), some (rws (cs ++ [x])), some (row (cnt ++ [(m : Int)])), some (rws (OW r)), y7, some (row W), z9, z10, none, none] φ' := by
  have hfl : (fit (r :: cs) (0 :: W)).length ≤ 240 := by
    have := List.length_filter_le (fun x => decide ((r :: cs).map (dot x) = 0 :: W)) RT
    rw [RT_len] at this
    exact this
  have hpos := List.length_pos_iff.mpr hf
  have owl : (OW r).length ≤ 240 := by
    have := List.length_filter_le (fun x => decide (dot x r = 0)) RT
    rw [RT_len] at this
    exact this
  have e9 : eLc (iSeq (eVar 6)) (tgN 11) (bCmp gEq (eLc (iSeq (eVar 4)) (tgN 12) bYes (eCall F__law_dot (aCons (eVar 11) (aCons (eVar 12) aNil))) [12]) (eVar 8)) (eVar 11) [11]
      [some .feed, some (rws RT), some (row r), some (rws (LN r)), some (rws cs), some (row cnt), some (rws (OW r)), y7, some (row W), y9, y10, none, none] φ = .ok (rws (fit (r :: cs) (0 :: W))) φ := by
    rw [← fit_own]
    exact lc_ok (OW r) row (fun x => decide (cs.map (dot x) = W)) row (seq_l (v_ok rfl)) (size_le (by omega)) fun x hx => ⟨_, rfl, cmp_ok (d := row (cs.map (dot x))) ((lcm_ok cs row (fun c => D.int (dot x c)) (seq_l (v_ok rfl)) (size_le (by omega)) fun c hcm => ⟨_, rfl, call_ok (two_ok (v_ok rfl) (v_ok rfl)) (f_ldot φ (RT_rw (List.mem_filter.mp hx).1) (RT_rw (hc c hcm).1))⟩).trans (by unfold row; rw [List.map_map]; rfl)) (v_ok rfl) (emb_row.gEq (by decide) _ _), fun _ => v_ok rfl⟩
  obtain ⟨x, hx, g⟩ := draw_ix row (fit (r :: cs) (0 :: W)) φ ((fit (r :: cs) (0 :: W)).length : Int) rfl rfl hpos
  have hxR := fit_mem.mp hx
  have hx0 : dot x r = 0 := by
    have := hxR.2
    rw [List.map_cons] at this
    injection this
  have hc2 : ∀ c ∈ cs ++ [x], c ∈ RT ∧ dot c r = 0 := fun c hcm => by
    rcases List.mem_append.mp hcm with q | q
    · exact hc c q
    · rw [List.mem_singleton.mp q]; exact ⟨hxR.1, hx0⟩
  have ef := free_len hr hc2
  rw [hm x hx] at ef
  have e10 : ∀ (z9 : Option D) (φ : Fd), eLc (iSeq (eVar 3)) (tgN 11) (bCmp gEq (eCB gLen (aCons (eLc (iSeq (eVar 4)) (tgN 12) (bCmp gNe (eCall F__law_dot (aCons (eVar 11) (aCons (eVar 12) aNil))) (eInt 0)) (eVar 12) [12]) aNil)) (eInt 0)) (eVar 11) [11]
      [some .feed, some (rws RT), some (row r), some (rws (LN r)), some (rws (cs ++ [x])), some (row cnt), some (rws (OW r)), y7, some (row W), z9, y10, none, none] φ = .ok (rws ((LN r).filter fun v => (cs ++ [x]).all fun c => decide (dot v c = 0))) φ := fun z9 φ =>
    lc_ok (LN r) row (fun v => (cs ++ [x]).all fun c => decide (dot v c = 0)) row (seq_l (v_ok rfl)) (size_le (by rw [LN_len hr]; decide)) fun v hv => ⟨_, rfl, (cmp_ok (len_ok (lc_ok (cs ++ [x]) row (fun c => !decide (dot v c = 0)) row (seq_l (v_ok rfl)) (size_le (by rw [List.length_append, List.length_singleton]; omega)) fun c hcm => ⟨_, rfl, cmp_ok (call_ok (two_ok (v_ok rfl) (v_ok rfl)) (f_ldot φ (LN_rw hr hv) (RT_rw (hc2 c hcm).1))) rfl (ne_int _ _), fun _ => v_ok rfl⟩)) rfl (eq_int _ _)).trans (by rw [none_zero]), fun _ => v_ok rfl⟩
  refine ⟨x, (φ.draw ((fit (r :: cs) (0 :: W)).length : Int)).2, some (rws (fit (r :: cs) (0 :: W))), some (rws ((LN r).filter fun v => (cs ++ [x]).all fun c => decide (dot v c = 0))), hx, Fd.draw_told ht _ (by omega), ?_⟩
  refine seq_nx (set_ok e9) (seq_nx (if_skip ((cmp_ok (cb1_ok (v_ok rfl) gLen_rows) rfl (eq_int _ _)).trans (by rw [decide_eq_false (by omega)]))) (seq_nx (app_ok (l := cs.map row) rfl (bin_ok (v_ok rfl) (draw_at 0 rfl (cb1_ok (v_ok rfl) gLen_rows) (by omega) (by omega) ht) g) (size_lt (by rw [List.length_map]; omega))) ?_))
  have er : (D.lst (cs.map row ++ [row x])) = rws (cs ++ [x]) := by unfold rws; rw [List.map_append]; rfl
  rw [er]
  refine seq_nx (set_ok (e10 _ _)) (seq_one (app_ok (l := cnt.map D.int) rfl (cb1_ok (v_ok rfl) gLen_rows) (size_lt (by rw [List.length_map]; omega))) |>.trans ?_)
  have e5 : ((LN r).filter fun v => (cs ++ [x]).all fun c => decide (dot v c = 0)).length = m := by omega
  rw [e5]
  have er2 : (D.lst (cnt.map D.int ++ [D.int (m : Int)])) = row (cnt ++ [(m : Int)]) := by unfold row; rw [List.map_append]; rfl
  rw [er2]
  rfl
end Pf

set_option Elab.async false
set_option linter.all false
set_option maxRecDepth 100000
set_option maxHeartbeats 1000000
namespace Pf
open PySem PySem.Spec PyProof.Rows L2
noncomputable abbrev lb__law_right_1 : SS := (sSeq (sSet 7 (eBin gIx (eVar 5) (eVar 6))) (sSeq (sIf (bOr (bNot (bTru (eUn (gIsi "list") (eVar 7)))) (bOr (bCmp gGtA (eCB gLen (aCons (eLc (iSeq (eVar 7)) (tgN 21) (bNot (bTru (eCall F__law_is_whole (aCons (eVar 21) aNil)))) (eVar 21) [21]) aNil)) (eInt 0)) (bOr (bCmp gNe (eCall F__law_dot (aCons (eVar 7) (aCons (eVar 7) aNil))) (eInt 6)) (bCmp gNe (eCall F__law_dot (aCons (eVar 7) (aCons (eVar 2) aNil))) (eInt 0))))) (sSeq (sRet (eBl false)) sNil) sNil) (sSeq (sIf (bCmp gGtA (eCB gLen (aCons (eLc (iRg1 (aCons (eVar 6) aNil)) (tgN 14) (bCmp gNe (eCB gAbs (aCons (eCall F__law_dot (aCons (eBin gIx (eVar 5) (eVar 14)) (aCons (eVar 7) aNil))) aNil)) (eInt 2)) (eVar 14) [14]) aNil)) (eInt 0)) (sSeq (sRet (eBl false)) sNil) sNil) sNil)))
noncomputable abbrev lb__law_right_2 : SS := (sSeq (sPopA 8 9 (eCall F__law_draw (aCons (eVar 0) (aCons (eCB gLen (aCons (eVar 9) aNil)) aNil)))) sNil)
noncomputable abbrev lb__law_right_3 : SS := (sSeq (sSet 13 (eLc (iRg1 (aCons (eCB gLen (aCons (eVar 8) aNil)) aNil)) (tgN 15) bYes (eVar 15) [15])) (sSeq (sPopS 13 14 (eCall F__law_draw (aCons (eVar 0) (aCons (eCB gLen (aCons (eVar 13) aNil)) aNil)))) (sSeq (sPopS 13 6 (eCall F__law_draw (aCons (eVar 0) (aCons (eCB gLen (aCons (eVar 13) aNil)) aNil)))) (sSeq (sPopS 13 15 (eCall F__law_draw (aCons (eVar 0) (aCons (eCB gLen (aCons (eVar 13) aNil)) aNil)))) (sSeq (sSet 16 (eCall F_triple_sign (aCons (eVar 11) (aCons (eVar 14) (aCons (eVar 6) (aCons (eVar 15) aNil)))))) (sSeq (sSet 17 (eBin gMul (eBin gMul (eCall F__law_dot (aCons (eBin gIx (eVar 8) (eVar 14)) (aCons (eBin gIx (eVar 8) (eVar 6)) aNil))) (eCall F__law_dot (aCons (eBin gIx (eVar 8) (eVar 14)) (aCons (eBin gIx (eVar 8) (eVar 15)) aNil)))) (eCall F__law_dot (aCons (eBin gIx (eVar 8) (eVar 6)) (aCons (eBin gIx (eVar 8) (eVar 15)) aNil))))) (sSeq (sIf (bOr (bNot (bTru (eCall F__law_is_whole (aCons (eVar 16) aNil)))) (bOr (bCmp gNe (eVar 16) (eBin gIx (eLst (aCons (eUn gNeg (eInt 1)) (aCons (eInt 1) aNil))) (eCB gInt (aCons (eBin gGtA (eVar 17) (eInt 0)) aNil)))) (bCmp gNe (eVar 11) (eVar 8)))) (sSeq (sRet (eBl false)) sNil) sNil) sNil)))))))
noncomputable abbrev lb__law_right_4 : SS := (sSeq (sSet 18 (eLc (iRg1 (aCons (eBin gAdd (eInt 1) (eCall F__law_draw (aCons (eVar 0) (aCons (eInt 7) aNil)))) aNil)) (tgN 15) bYes (eBin gIx (eVar 4) (eCall F__law_draw (aCons (eVar 0) (aCons (eInt 28) aNil)))) [15])) (sSeq (sAsg (tgT 2 (tsCons (tgN 19) (tsCons (tgN 12) tsNil))) (eCall F__law_spanned (aCons (eVar 18) (aCons (eVar 4) aNil)))) (sSeq (sIf (bCmp gGtA (eVar 12) (eCall F_most_at_angle (aCons (eVar 19) aNil))) (sSeq (sRet (eBl false)) sNil) sNil) sNil)))
theorem forGo_nx {T : Tg} {B : SS} {d : D} {ds : List D} {ρ ρ1 ρ2 : En} {φ φ2 : Fd} (h1 : T d ρ = some ρ1) (h2 : B ρ1 φ = .nx ρ2 φ2) : forGo T B (d :: ds) ρ φ = forGo T B ds ρ2 φ2 := by
  conv => lhs; unfold forGo
  rw [h1]
  simp only [h2]
theorem sl_take (l : List D) (k : Nat) : gSl (.lst l) none (some (k : Int)) = some (.lst (l.take k)) := by
  show some (D.lst (cutD l none (some (k : Int)))) = _
  unfold cutD
  rw [HT.sIx_nat]
  show some (D.lst ((l.drop 0).take (min k l.length - 0))) = _
  rw [List.drop_zero, Nat.sub_zero]
  congr 2
  by_cases h : k ≤ l.length
  · rw [Nat.min_eq_left h]
  · rw [Nat.min_eq_right (by omega), List.take_of_length_le (Nat.le_refl _), List.take_of_length_le (by omega)]
theorem sl_drop (l : List D) (k : Nat) : gSl (.lst l) (some (k : Int)) none = some (.lst (l.drop k)) := by
  show some (D.lst (cutD l (some (k : Int)) none)) = _
  unfold cutD
  rw [HT.sIx_nat]
  show some (D.lst ((l.drop (min k l.length)).take (l.length - min k l.length))) = _
  congr 2
  by_cases h : k ≤ l.length
  · rw [Nat.min_eq_left h, List.take_of_length_le (by rw [List.length_drop]; omega)]
  · rw [Nat.min_eq_right (by omega), List.drop_of_length_le (Nat.le_refl _), List.drop_of_length_le (by omega), List.take_nil]
theorem sl_rows {ρ : En} {φ : Fd} {A B : SX} {p : List (List Int)} {k : Nat} (ha : A ρ φ = .ok (rws p) φ) (hb : B ρ φ = .ok (.int (k : Int)) φ) : eSl A oNone (oSome B) ρ φ = .ok (rws (p.take k)) φ := by
  unfold eSl oNone oSome
  rw [ha]
  show ((B ρ φ).bind _).bind _ = _
  rw [hb]
  show ofO (gSl (.lst (p.map row)) none (some (k : Int))) φ = _
  rw [sl_take, ← List.map_take]
  rfl
theorem asg_ok {T : Tg} {A : SX} {ρ ρ1 : En} {φ φ1 : Fd} {d : D} (h : A ρ φ = .ok d φ1) (hT : T d ρ = some ρ1) : sAsg T A ρ φ = .nx ρ1 φ1 := by
  unfold sAsg
  rw [h]
  show (match T d ρ with | some ρ' => R.nx ρ' φ1 | none => .bad) = _
  rw [hT]
theorem no_ok {p : Prop} [Decidable p] {φ : Fd} (h : p) : O.ok (!decide p) φ = .ok false φ := by rw [decide_eq_true h]; rfl
theorem draw_nat (i : Nat) (φ : Fd) (ht : 0 ≤ φ.told) (n : Nat) (h0 : 0 < n) (h1 : n < 1073741824) : ∃ (m : Nat) (φ1 : Fd), m < n ∧ 0 ≤ φ1.told ∧ ∀ (ρ : En) (A : SX), ρ[i]? = some (some .feed) → A ρ φ = .ok (.int (n : Int)) φ → eCall F__law_draw (aCons (eVar i) (aCons A aNil)) ρ φ = .ok (.int (m : Int)) φ1 := by
  have hr := Fd.draw_range φ (m := (n : Int)) (by omega)
  refine ⟨(φ.draw n).1.toNat, (φ.draw n).2, by omega, Fd.draw_told ht n (by omega), fun ρ A hρ hA => ?_⟩
  rw [Int.toNat_of_nonneg hr.1]
  exact draw_at i hρ hA (by omega) (by omega) ht
section
variable {α β : Type} {T : Tg} {elt : SX}
theorem lcGo_P (P : Fd → Prop) (S : β → Prop) (e : α → D) (g : β → D) {ρ : En} : ∀ (xs : List α) (φ : Fd), P φ → (∀ x ∈ xs, ∀ φ, P φ → ∃ ρ1, T (e x) ρ = some ρ1 ∧ ∃ z φ2, elt ρ1 φ = .ok (g z) φ2 ∧ P φ2 ∧ S z) →
    ∃ (zs : List β) (φ' : Fd), lcGo T bYes elt ρ (xs.map e) φ = .ok (zs.map g) φ' ∧ zs.length = xs.length ∧ P φ' ∧ ∀ z ∈ zs, S z
  | [], φ, h0, _ => ⟨[], φ, rfl, rfl, h0, fun _ h => (by cases h)⟩
  | x :: xs, φ, h0, h => by
    obtain ⟨ρ1, h1, z, φ2, h2, h3, hz⟩ := h x List.mem_cons_self φ h0
    obtain ⟨zs, φ', e1, e2, e3, e4⟩ := lcGo_P P S e g xs φ2 h3 fun y hy => h y (List.mem_cons_of_mem _ hy)
    refine ⟨z :: zs, φ', ?_, by rw [List.length_cons, List.length_cons, e2], e3, fun u hu => ?_⟩
    · rw [List.map_cons]
      unfold lcGo
      rw [h1]
      simp only [bYes, h2, e1]
      rfl
    · rcases List.mem_cons.mp hu with rfl | hu
      · exact hz
      · exact e4 u hu
theorem lc_P (P : Fd → Prop) (S : β → Prop) {I : SA} {vs : List Nat} {ρ : En} {φ φ1 : Fd} (xs : List α) (e : α → D) (g : β → D) (hI : I ρ φ1 = .ok (xs.map e) φ) (hl : xs.length ≤ sizeLine) (h0 : P φ)
    (h : ∀ x ∈ xs, ∀ φ, P φ → ∃ ρ1, T (e x) (wipeE ρ vs) = some ρ1 ∧ ∃ z φ2, elt ρ1 φ = .ok (g z) φ2 ∧ P φ2 ∧ S z) :
    ∃ (zs : List β) (φ' : Fd), eLc I T bYes elt vs ρ φ1 = .ok (.lst (zs.map g)) φ' ∧ zs.length = xs.length ∧ P φ' ∧ ∀ z ∈ zs, S z := by
  obtain ⟨zs, φ', e1, e2, e3, e4⟩ := lcGo_P P S e g (ρ := wipeE ρ vs) xs φ h0 h
  refine ⟨zs, φ', ?_, e2, e3, e4⟩
  unfold eLc
  rw [hI]
  show (match lcGo T bYes elt (wipeE ρ vs) (xs.map e) φ with | .ok ys φ2 => if ys.length ≤ sizeLine then O.ok (D.lst ys) φ2 else .bad | _ => .bad) = _
  rw [e1]
  show (if _ then _ else _) = _
  rw [if_pos (by rw [List.length_map]; omega)]
end
/-! ## the roots chosen, all six -/
theorem f_chosen {r : List Int} (hr : r ∈ RT) (φ : Fd) (ht : 0 ≤ φ.told) : ∃ φ', F__law_chosen [.feed, rws RT, row r, rws (LN r)] φ = .ok (row [28, 16, 10, 6, 4, 2, 1]) φ' ∧ 0 ≤ φ'.told := by
  have e6 : eLc (iSeq (eVar 1)) (tgN 11) (bCmp gEq (eCall F__law_dot (aCons (eVar 11) (aCons (eVar 2) aNil))) (eInt 0)) (eVar 11) [11] [some .feed, some (rws RT), some (row r), some (rws (LN r)), some (.lst []), some (row [28]), none, none, none, none, none, none, none] φ = .ok (rws (OW r)) φ :=
    lc_ok RT row (fun x => decide (dot x r = 0)) row (seq_l (v_ok rfl)) (size_le (by rw [RT_len]; decide)) fun x hx => ⟨_, rfl, cmp_ok (call_ok (two_ok (v_ok rfl) (v_ok rfl)) (f_ldot φ (RT_rw hx) (RT_rw hr))) rfl (eq_int _ _), fun _ => v_ok rfl⟩
  have c0 : C0 [r] := ⟨r, hr, rfl⟩
  have z : ∀ {cs : List (List Int)} {x : List Int} {W : List Int}, (∀ c ∈ cs, c ∈ RT ∧ dot c r = 0) → x ∈ fit (r :: cs) (0 :: W) → ∀ c ∈ cs ++ [x], c ∈ RT ∧ dot c r = 0 := fun {cs x W} hc hx c hcm => by
    rcases List.mem_append.mp hcm with q | q
    · exact hc c q
    · obtain ⟨x1, x2⟩ := fit_mem.mp hx
      rw [List.map_cons] at x2
      rw [List.mem_singleton.mp q]
      exact ⟨x1, by injection x2⟩
  have n0 : ∀ c ∈ ([] : List (List Int)), c ∈ RT ∧ dot c r = 0 := fun _ h => (by cases h)
  obtain ⟨y7, hy7⟩ : ∃ y7 : Option D, y7 = some (.lst [row [], row [-1], row [0, -1], row [0, -1, 0], row [0, 0, -1, 0], row [-1, 0, 0, 0, 0]]) := ⟨_, rfl⟩
  obtain ⟨x1, φ1, u9, u10, m1, t1', s1⟩ := ch_step hr (cs := []) (W := []) (m := 16) n0 (by decide) (q0 _ c0 (by simp)).2 (fun x hx => (q1 _ ⟨_, x, c0, hx, rfl⟩ (by simp)).1) [28] (by decide) φ ht y7 none none
  have c1 : C1 [r, x1] := ⟨_, x1, c0, m1, rfl⟩
  obtain ⟨x2, φ2, v9, v10, m2, t2', s2⟩ := ch_step hr (cs := [x1]) (W := [-1]) (m := 10) (z n0 m1) (Nat.le_of_ble_eq_true rfl) (q1 _ c1 (by simp)).2 (fun x hx => (q2 _ ⟨_, x, c1, hx, rfl⟩ (by simp)).1) [28, 16] (by decide) φ1 t1' y7 u9 u10
  have c2 : C2 [r, x1, x2] := ⟨_, x2, c1, m2, rfl⟩
  obtain ⟨x3, φ3, w9, w10, m3, t3', s3⟩ := ch_step hr (cs := [x1, x2]) (W := [0, -1]) (m := 6) (z (z n0 m1) m2) (Nat.le_of_ble_eq_true rfl) (q2 _ c2 (by simp)).2 (fun x hx => (q3 _ ⟨_, x, c2, hx, rfl⟩ (by simp)).1) [28, 16, 10] (by decide) φ2 t2' y7 v9 v10
  have c3 : C3 [r, x1, x2, x3] := ⟨_, x3, c2, m3, rfl⟩
  obtain ⟨x4, φ4, a9, a10, m4, t4', s4⟩ := ch_step hr (cs := [x1, x2, x3]) (W := [0, -1, 0]) (m := 4) (z (z (z n0 m1) m2) m3) (Nat.le_of_ble_eq_true rfl) (q3 _ c3 (by simp)).2 (fun x hx => (q4 _ ⟨_, x, c3, hx, rfl⟩ (by simp)).1) [28, 16, 10, 6] (by decide) φ3 t3' y7 w9 w10
  have c4 : C4 [r, x1, x2, x3, x4] := ⟨_, x4, c3, m4, rfl⟩
  obtain ⟨x5, φ5, b9, b10, m5, t5', s5⟩ := ch_step hr (cs := [x1, x2, x3, x4]) (W := [0, 0, -1, 0]) (m := 2) (z (z (z (z n0 m1) m2) m3) m4) (Nat.le_of_ble_eq_true rfl) (q4 _ c4 (by simp)).2 (fun x hx => (q5 _ ⟨_, x, c4, hx, rfl⟩ (by simp)).1) [28, 16, 10, 6, 4] (by decide) φ4 t4' y7 a9 a10
  have c5 : C5 [r, x1, x2, x3, x4, x5] := ⟨_, x5, c4, m5, rfl⟩
  obtain ⟨x6, φ6, d9, d10, m6, t6', s6⟩ := ch_step hr (cs := [x1, x2, x3, x4, x5]) (W := [-1, 0, 0, 0, 0]) (m := 1) (z (z (z (z (z n0 m1) m2) m3) m4) m5) (Nat.le_of_ble_eq_true rfl) (q5 _ c5 (by simp)).2 (fun x hx => q6 _ ⟨_, x, c5, hx, rfl⟩ (by simp)) [28, 16, 10, 6, 4, 2] (by decide) φ5 t5' y7 b9 b10
  have lp := (forGo_nx (T := tgN 8) (B := lb__law_chosen_1) (d := row []) (ds := [row [-1], row [0, -1], row [0, -1, 0], row [0, 0, -1, 0], row [-1, 0, 0, 0, 0]]) (ρ := [some .feed, some (rws RT), some (row r), some (rws (LN r)), some (rws []), some (row [28]), some (rws (OW r)), y7, none, none, none, none, none]) rfl s1).trans
    ((forGo_nx (d := row [-1]) rfl s2).trans ((forGo_nx (d := row [0, -1]) rfl s3).trans ((forGo_nx (d := row [0, -1, 0]) rfl s4).trans ((forGo_nx (d := row [0, 0, -1, 0]) rfl s5).trans ((forGo_nx (d := row [-1, 0, 0, 0, 0]) (ds := []) rfl s6).trans rfl)))))
  subst hy7
  exact ⟨φ6, run_rt (seq_nx (set_ok rfl) (seq_nx (set_ok (d := row [28]) rfl) (seq_nx (set_ok e6) (seq_nx (set_ok (d := .lst [row [], row [-1], row [0, -1], row [0, -1, 0], row [0, 0, -1, 0], row [-1, 0, 0, 0, 0]]) (by rfl)) (seq_nx (for_ok (seq_l (v_ok rfl)) lp) (seq_rt (ret_ok (v_ok rfl)))))))), t6'⟩
end Pf

set_option Elab.async false
set_option linter.all false
set_option maxRecDepth 100000
set_option maxHeartbeats 2000000
namespace Pf
open PySem PySem.Spec PyProof.Rows L2

theorem LN_R {r : List Int} (hr : r ∈ RT) : Rs (LN r) := fun v hv => ⟨LN_bd hr hv, (LN_lat hr hv).1.1⟩
theorem bd_bw {v : List Int} (h : bd 6 v ∧ v.length = 8) : bw 3 v ∧ v.length = 8 := ⟨fun a ha => by have := h.1 a ha; omega, h.2⟩
theorem f_whole (x : Int) (φ : Fd) : F__law_is_whole [.int x] φ = .ok (.bl true) φ := run_ret (eand_yes (un_ok (v_ok rfl) rfl) (enot_ok (b := false) (un_ok (v_ok rfl) rfl)))
theorem whole_no {ρ : En} {φ : Fd} {A : SX} {x : Int} (h : A ρ φ = .ok (.int x) φ) : bNot (bTru (eCall F__law_is_whole (aCons A aNil))) ρ φ = .ok false φ := not_ok (b := true) (trub_ok (call_ok (one_ok h) (f_whole x φ)))
theorem no_len {ρ : En} {φ φ1 : Fd} {α : Type} {I : SA} {T : Tg} {tst : SB} {elt : SX} {vs : List Nat} (xs : List α) (e : α → D) (hI : I ρ φ = .ok (xs.map e) φ) (hl : xs.length ≤ sizeLine) (h : ∀ x ∈ xs, ∃ ρ1, T (e x) (wipeE ρ vs) = some ρ1 ∧ tst ρ1 φ = .ok false φ) :
    bCmp gGtA (eCB gLen (aCons (eLc I T tst elt vs) aNil)) (eInt 0) ρ φ = .ok false φ := by
  have h1 := lc_ok (T := T) (tst := tst) (elt := elt) (vs := vs) xs e (fun _ => false) (fun _ => D.non) hI hl fun x hx => by
    obtain ⟨ρ1, h1, h2⟩ := h x hx
    exact ⟨ρ1, h1, h2, fun q => (by cases q)⟩
  have e0 : xs.filter (fun _ => false) = [] := by simp
  rw [e0] at h1
  exact len_gtz (l := []) h1
/-! ### what is spanned -/
theorem Cw.nil (root : List Int) : Cw root [] := ⟨fun _ h => (by cases h), fun _ h => (by cases h), fun _ h => (by cases h), fun _ h => (by cases h), .nil⟩
theorem clr_cw {r : List Int} (hr : r ∈ RT) {rows : List (List Int)} (h : ∀ v ∈ rows, v ∈ LN r) : Cw r (clr rows) := Cw.all (RT_l8 hr) rows (Cw.nil r) fun v hv => ⟨(LN_lat hr (h v hv)).1.1, (LN_lat hr (h v hv)).2.2⟩
theorem clr_le {r : List Int} (hr : r ∈ RT) {rows : List (List Int)} (h : ∀ v ∈ rows, v ∈ LN r) : (clr rows).length ≤ 7 ∧ (LN r).countP (gone (clr rows)) ≤ mostL (clr rows).length := by
  have W := clr_cw hr h
  have n0 : mulS r r ≠ 0 := by rw [RT_sq hr]; decide
  exact ⟨W.le7 (RT_l8 hr) n0, gone_le W (RT_l8 hr) n0 (fun v hv => ⟨(LN_lat hr hv).1.1, (LN_lat hr hv).2.1⟩) (LN_sq hr)⟩
theorem fst_LN {r v : List Int} (hr : r ∈ RT) (h : v ∈ LN r) : ∃ k, fst v = some k := by
  cases e : fst v with
  | some k => exact ⟨k, rfl⟩
  | none =>
    have := mulS_all_zero v (fst_none (LN_lat hr h).1.1 e)
    rw [(LN_lat hr h).2.1] at this
    cases this
theorem clr_one {r v : List Int} (hr : r ∈ RT) (h : v ∈ LN r) (rows : List (List Int)) : ∃ k, clr (v :: rows) = rows.foldl cstep [(v, k)] := by
  obtain ⟨k, hk⟩ := fst_LN hr h
  refine ⟨k, ?_⟩
  show rows.foldl cstep (cstep [] v) = _
  have : cstep [] v = [(v, k)] := by
    unfold cstep
    show (match fst v with | some k => [] ++ [(v, k)] | none => []) = _
    rw [hk]
    rfl
  rw [this]
theorem clr_pos {r v : List Int} (hr : r ∈ RT) (h : v ∈ LN r) (rows : List (List Int)) : 1 ≤ (clr (v :: rows)).length := by
  obtain ⟨k, hk⟩ := clr_one hr h rows
  rw [hk]
  exact (cfold_len rows [(v, k)]).1
theorem cstep_app (C : Cl) (v : List Int) : ∃ E, cstep C v = C ++ E := by
  unfold cstep
  split
  · exact ⟨_, rfl⟩
  · exact ⟨[], by simp⟩
theorem cfold_app : ∀ (rows : List (List Int)) (C : Cl), ∃ E, rows.foldl cstep C = C ++ E
  | [], C => ⟨[], by simp⟩
  | v :: rows, C => by
    obtain ⟨E, h1⟩ := cstep_app C v
    obtain ⟨E', h2⟩ := cfold_app rows (cstep C v)
    exact ⟨E ++ E', by rw [List.foldl_cons, h2, h1, List.append_assoc]⟩
theorem rdc_app (C E : Cl) (v : List Int) : rdc (C ++ E) v = rdc E (rdc C v) := by unfold rdc; rw [List.foldl_append]
theorem red_zero {c : List Int × Nat} {h : List Int} (hc : c.1.length = 8) (hh : h.length = 8) (z : ∀ k, k < 8 → gi h k = 0) (hk : c.2 < 8) : ∀ k, k < 8 → gi (red c h) k = 0 := fun k hk8 => by
  rw [gi_red hc hh hk8, z k hk8, z c.2 hk]
  omega
theorem rdc_zeros : ∀ {E : Cl} {h : List Int}, (∀ c ∈ E, c.1.length = 8 ∧ c.2 < 8) → h.length = 8 → (∀ k, k < 8 → gi h k = 0) → ∀ k, k < 8 → gi (rdc E h) k = 0
  | [], _, _, _, z => z
  | c :: E, h, hE, hh, z => by
    obtain ⟨c1, c2⟩ := hE c List.mem_cons_self
    exact rdc_zeros (E := E) (h := red c h) (fun d hd => hE d (List.mem_cons_of_mem _ hd)) (red_len c1 hh) (red_zero c1 hh z c2)
theorem gone_of {C : Cl} {v : List Int} (hl : (rdc C v).length = 8) (z : ∀ k, k < 8 → gi (rdc C v) k = 0) : gone C v = true := by
  unfold gone
  rw [List.all_eq_true]
  intro a ha
  obtain ⟨k, hk, rfl⟩ := List.mem_iff_getElem.mp ha
  have := z k (by omega)
  unfold gi at this
  rw [List.getD_eq_getElem?_getD, List.getElem?_eq_getElem hk] at this
  simpa using this
theorem gone_mem {r : List Int} (hr : r ∈ RT) {rows : List (List Int)} (h : ∀ v ∈ rows, v ∈ LN r) : ∀ v ∈ rows, gone (clr rows) v = true := by
  intro v hv
  obtain ⟨pre, post, e⟩ := List.append_of_mem hv
  have W := clr_cw hr h
  have v8 := (LN_lat hr (h v hv)).1.1
  refine gone_of (rdc_len W.len v8) ?_
  obtain ⟨C, hC⟩ : ∃ C, C = pre.foldl cstep [] := ⟨_, rfl⟩
  have ec : clr rows = post.foldl cstep (cstep C v) := by unfold clr; rw [e, List.foldl_append, hC]; rfl
  obtain ⟨E, hE⟩ := cfold_app post (cstep C v)
  have cm : ∀ c ∈ clr rows, c.1.length = 8 ∧ c.2 < 8 := fun c hc => ⟨W.len c hc, W.lt c hc⟩
  cases ef : fst (rdc C v) with
  | none =>
    have e1 : cstep C v = C := by unfold cstep; rw [ef]
    rw [e1] at hE ec
    rw [ec, hE] at cm ⊢
    rw [rdc_app]
    have l8 : (rdc C v).length = 8 := rdc_len (fun c hc => (cm c (List.mem_append_left _ hc)).1) v8
    refine rdc_zeros (fun c hc => cm c (List.mem_append_right _ hc)) l8 fun k hk => ?_
    have := fst_none l8 ef ((rdc C v)[k]'(by omega)) (List.getElem_mem _)
    unfold gi
    rw [List.getD_eq_getElem?_getD, List.getElem?_eq_getElem (by omega)]
    exact this
  | some k0 =>
    have e1 : cstep C v = C ++ [(rdc C v, k0)] := by unfold cstep; rw [ef]
    rw [e1] at hE ec
    rw [ec, hE] at cm ⊢
    have l8 : (rdc C v).length = 8 := rdc_len (fun c hc => (cm c (List.mem_append_left _ (List.mem_append_left _ hc))).1) v8
    have k8 := (fst_some ef).1
    rw [rdc_app, rdc_snoc]
    refine rdc_zeros (fun c hc => cm c (List.mem_append_right _ hc)) (red_len l8 l8) fun k hk => ?_
    rw [gi_red l8 l8 hk]
    show gi (rdc C v) k0 * gi (rdc C v) k - gi (rdc C v) k0 * gi (rdc C v) k = 0
    omega
theorem span_n {r : List Int} (hr : r ∈ RT) (n : Nat) (hn : n = 1 ∨ n = 2) : (clr ((LN r).take n)).length = n ∧ (LN r).countP (gone (clr ((LN r).take n))) = n := by
  have hsub : ∀ v ∈ (LN r).take n, v ∈ LN r := fun v hv => List.mem_of_mem_take hv
  have hlen : ((LN r).take n).length = n := by rw [List.length_take, LN_len hr]; omega
  obtain ⟨h7, hm⟩ := clr_le hr hsub
  have hle : (clr ((LN r).take n)).length ≤ n := by
    have := (cfold_len ((LN r).take n) []).2
    rw [hlen, List.length_nil] at this
    unfold clr
    omega
  have hge : n ≤ (LN r).countP (gone (clr ((LN r).take n))) := by
    have hs : ((LN r).take n).Sublist (LN r) := List.take_sublist _ _
    have h1 := hs.countP_le (p := gone (clr ((LN r).take n)))
    have h2 : ((LN r).take n).countP (gone (clr ((LN r).take n))) = ((LN r).take n).length := List.countP_eq_length.mpr (gone_mem hr hsub)
    omega
  obtain ⟨k, hk⟩ : ∃ k, k = (clr ((LN r).take n)).length := ⟨_, rfl⟩
  rw [← hk] at hle hm ⊢
  have c0 : k = 0 ∨ k = 1 ∨ k = 2 := by omega
  rcases c0 with c0 | c0 | c0
  · rw [c0] at hm
    have : mostL 0 = 0 := rfl
    omega
  · rw [c0] at hm
    have : mostL 1 = 1 := rfl
    omega
  · rw [c0] at hm
    have : mostL 2 = 2 := rfl
    omega
/-! ### the loops of _law_right -/
section
variable {r : List Int}
theorem lp1 (hr : r ∈ RT) (φ : Fd) (y0 y1 y3 y4 : Option D) (tl : En) (htl : tl = List.replicate 14 none) : ∃ z6 z7,
    forGo (tgN 6) lb__law_right_1 ((List.range 28).map fun (j : Nat) => D.int (j : Int)) ([y0, y1, some (row r), y3, y4, some (rws (LN r)), none, none] ++ tl) φ = .nx ([y0, y1, some (row r), y3, y4, some (rws (LN r)), z6, z7] ++ tl) φ := by
  subst htl
  obtain ⟨ρ', h1, z6, z7, rfl⟩ := for_inv (T := tgN 6) (φ := φ) (e := fun (j : Nat) => D.int (j : Int)) (B := lb__law_right_1)
    (fun _ ρ => ∃ z6 z7, ρ = [y0, y1, some (row r), y3, y4, some (rws (LN r)), z6, z7] ++ List.replicate 14 none) (List.range 28) []
    (ρ := [y0, y1, some (row r), y3, y4, some (rws (LN r)), none, none] ++ List.replicate 14 none) ⟨none, none, rfl⟩ (by
    rintro pre j post ρ hp ⟨z6, z7, rfl⟩
    rw [List.nil_append] at hp
    have hj : j < (LN r).length := by rw [LN_len hr]; exact (pre_at hp).2
    obtain ⟨hL, h24, h0⟩ := LN_lat hr (gw_mem hj)
    have d6 : dot (gw (LN r) j) (gw (LN r) j) = 6 := by have := hL.dot hL; omega
    have d0 : dot (gw (LN r) j) r = 0 := (dot_zero hL (RT_lat hr)).mpr h0
    have rwj := LN_rw hr (gw_mem hj)
    refine ⟨_, rfl, _, .inl (seq_nx (set_ok (bin_ok (v_ok rfl) (v_ok rfl) (gIx_rows hj))) (seq_nx (if_skip (or_no (not_ok (b := true) (trub_ok (un_ok (v_ok rfl) rfl))) (or_no (no_len (φ1 := φ) (gw (LN r) j) D.int (seq_l (v_ok rfl)) (size_le (by rw [rwj.1]; decide)) fun x _ => ⟨_, rfl, whole_no (v_ok rfl)⟩)
      (or_no ((cmp_ok (call_ok (two_ok (v_ok rfl) (v_ok rfl)) (f_ldot φ rwj rwj)) rfl (ne_int _ _)).trans (no_ok d6)) ((cmp_ok (call_ok (two_ok (v_ok rfl) (v_ok rfl)) (f_ldot φ rwj (RT_rw hr))) rfl (ne_int _ _)).trans (no_ok d0)))))) (seq_one (if_skip (no_len (φ1 := φ) (List.range j) (fun (i : Nat) => D.int (i : Int)) (rg1_ok (n := j) (one_ok (v_ok rfl)) (by rw [LN_len hr] at hj; omega)) (size_le (by rw [List.length_range]; rw [LN_len hr] at hj; omega)) fun i hi => ⟨_, rfl, ?_⟩))))), some (.int (j : Int)), some (row (gw (LN r) j)), rfl⟩
    have hi := List.mem_range.mp hi
    have hi2 : i < (LN r).length := by omega
    refine (cmp_ok (cb1_ok (call_ok (two_ok (bin_ok (v_ok rfl) (v_ok rfl) (gIx_rows hi2)) (v_ok rfl)) (f_ldot φ (LN_rw hr (gw_mem hi2)) rwj)) rfl) rfl (ne_int _ _)).trans (no_ok ?_)
    have hp := List.pairwise_iff_getElem.mp (LN_pw hr) i j hi2 hj hi
    have e1 : gw (LN r) i = (LN r)[i] := by unfold gw; rw [List.getD_eq_getElem?_getD, List.getElem?_eq_getElem hi2]; rfl
    have e2 : gw (LN r) j = (LN r)[j] := by unfold gw; rw [List.getD_eq_getElem?_getD, List.getElem?_eq_getElem hj]; rfl
    rw [← e1, ← e2] at hp
    have hd := (LN_lat hr (gw_mem hi2)).1.dot hL
    split <;> omega)
  exact ⟨z6, z7, h1⟩
theorem lp2 (hr : r ∈ RT) (φ : Fd) (ht : 0 ≤ φ.told) (n : Nat) (hn : n ≤ 10) (y1 y2 y3 y4 y5 y6 y7 : Option D) (tl : En) (htl : tl = List.replicate 11 none) : ∃ A B φ' z10, 0 ≤ φ'.told ∧ A.length = n ∧ (∀ v ∈ A, v ∈ LN r) ∧
    forGo (tgN 10) lb__law_right_2 ((List.range n).map fun (j : Nat) => D.int (j : Int)) ([some .feed, y1, y2, y3, y4, y5, y6, y7, some (.lst []), some (rws (LN r)), none] ++ tl) φ = .nx ([some .feed, y1, y2, y3, y4, y5, y6, y7, some (rws A), some (rws B), z10] ++ tl) φ' := by
  subst htl
  obtain ⟨ρ', φ', h1, A, B, z10, rfl, ht', hA, hB, mA, mB⟩ := for_st (T := tgN 10) (e := fun (j : Nat) => D.int (j : Int)) (B := lb__law_right_2)
    (fun pre ρ φ => ∃ A B z10, ρ = [some .feed, y1, y2, y3, y4, y5, y6, y7, some (rws A), some (rws B), z10] ++ List.replicate 11 none ∧ 0 ≤ φ.told ∧ A.length = pre.length ∧ B.length + pre.length = 28 ∧ (∀ v ∈ A, v ∈ LN r) ∧ ∀ v ∈ B, v ∈ LN r) (List.range n) []
    (ρ := [some .feed, y1, y2, y3, y4, y5, y6, y7, some (.lst []), some (rws (LN r)), none] ++ List.replicate 11 none) (φ := φ) ⟨[], LN r, none, rfl, ht, rfl, by rw [LN_len hr]; rfl, fun _ h => (by cases h), fun _ h => h⟩ (by
    rintro pre j post ρ φ hp ⟨A, B, z10, rfl, ht, hA, hB, mA, mB⟩
    rw [List.nil_append] at hp
    have hj := pre_at hp
    obtain ⟨m, φ1, hm, ht1, d⟩ := draw_nat 0 φ ht B.length (by omega) (by omega)
    have hx : (B.map row)[m]? = some (row (gw B m)) := by rw [List.getElem?_map, gw_get hm]; rfl
    have pop := popD_at hx (by omega)
    rw [erase_map] at pop
    refine ⟨_, rfl, _, φ1, .inl (seq_one (popA_ok (m := A.map row) (l := B.map row) rfl rfl (d _ _ rfl (cb1_ok (v_ok rfl) gLen_rows)) pop (size_lt (by rw [List.length_map]; omega)))), A ++ [gw B m], B.eraseIdx m, some (.int (j : Int)), ?_, ht1, by rw [List.length_append, List.length_append, hA]; rfl, ?_, fun v hv => ?_, fun v hv => mB v (List.mem_of_mem_eraseIdx hv)⟩
    · have : rws (A ++ [gw B m]) = .lst (A.map row ++ [row (gw B m)]) := by unfold rws; rw [List.map_append]; rfl
      rw [this]
      rfl
    · rw [List.length_eraseIdx, if_pos hm, List.length_append, List.length_singleton]
      omega
    · rcases List.mem_append.mp hv with q | q
      · exact mA v q
      · rw [List.mem_singleton.mp q]; exact mB _ (gw_mem hm))
  exact ⟨A, B, φ', z10, ht', by rw [hA, List.nil_append, List.length_range], mA, h1⟩
def nints (l : List Nat) : D := .lst (l.map fun (k : Nat) => D.int (k : Int))
theorem pop_nat {φ : Fd} (ht : 0 ≤ φ.told) {l : List Nat} {n : Nat} (h0 : 0 < l.length) (hl : l.length ≤ 1000) (hlt : ∀ k ∈ l, k < n) (j : Nat) : ∃ x m φ1, x < n ∧ 0 ≤ φ1.told ∧ (l.eraseIdx m).length + 1 = l.length ∧ (∀ k ∈ l.eraseIdx m, k < n) ∧ ∀ ρ : En, ρ[0]? = some (some .feed) → ρ[13]? = some (some (nints l)) →
    sPopS 13 j (eCall F__law_draw (aCons (eVar 0) (aCons (eCB gLen (aCons (eVar 13) aNil)) aNil))) ρ φ = .nx ((ρ.set 13 (some (nints (l.eraseIdx m)))).set j (some (.int (x : Int)))) φ1 := by
  obtain ⟨m, φ1, hm, ht1, d⟩ := draw_nat 0 φ ht l.length h0 (by omega)
  have hx : (l.map fun (k : Nat) => D.int (k : Int))[m]? = some (.int ((l[m]'hm : Nat) : Int)) := by rw [List.getElem?_map, List.getElem?_eq_getElem hm]; rfl
  have pop := popD_at hx (by omega)
  rw [erase_map] at pop
  refine ⟨l[m], m, φ1, hlt _ (List.getElem_mem hm), ht1, by rw [List.length_eraseIdx, if_pos hm]; omega, fun k hk => hlt k (List.mem_of_mem_eraseIdx hk), fun ρ h0 h13 => popS_ok (l := l.map fun (k : Nat) => D.int (k : Int)) h13 (d _ _ h0 ((cb1_ok (v_ok h13) (sum_lens l.length _ (by rw [List.length_map]))))) pop⟩
theorem lp3_step (hr : r ∈ RT) {A : List (List Int)} (h2 : 2 < A.length) (hA10 : A.length ≤ 10) (mA : ∀ v ∈ A, v ∈ LN r) (φ : Fd) (ht : 0 ≤ φ.told) (y1 y2 y3 y4 y5 y6 y7 y9 y10 y12 y13 y14 y15 y16 y17 y18 y19 y20 y21 : Option D) : ∃ φ' z6 z13 z14 z15 z16 z17, 0 ≤ φ'.told ∧
    lb__law_right_3 [some .feed, y1, y2, y3, y4, y5, y6, y7, some (rws A), y9, y10, some (rws A), y12, y13, y14, y15, y16, y17, y18, y19, y20, y21] φ = .nx [some .feed, y1, y2, y3, y4, y5, z6, y7, some (rws A), y9, y10, some (rws A), y12, z13, z14, z15, z16, z17, y18, y19, y20, y21] φ' := by
  have R : Rs A := fun v hv => LN_R hr v (mA v hv)
  have e13 : eLc (iRg1 (aCons (eCB gLen (aCons (eVar 8) aNil)) aNil)) (tgN 15) bYes (eVar 15) [15] [some .feed, y1, y2, y3, y4, y5, y6, y7, some (rws A), y9, y10, some (rws A), y12, y13, y14, y15, y16, y17, y18, y19, y20, y21] φ = .ok (nints (List.range A.length)) φ :=
    lcm_ok (List.range A.length) (fun (k : Nat) => D.int (k : Int)) (fun (k : Nat) => D.int (k : Int)) (rg1_ok (n := A.length) (one_ok (cb1_ok (v_ok rfl) gLen_rows)) (by omega)) (size_le (by rw [List.length_range]; omega)) fun k _ => ⟨_, rfl, v_ok rfl⟩
  obtain ⟨i, m1, φ1, hi, ht1, l1, k1, p1⟩ := pop_nat ht (l := List.range A.length) (n := A.length) (by rw [List.length_range]; omega) (by rw [List.length_range]; omega) (fun k hk => List.mem_range.mp hk) 14
  rw [List.length_range] at l1
  obtain ⟨j, m2, φ2, hj, ht2, l2, k2, p2⟩ := pop_nat ht1 (l := (List.range A.length).eraseIdx m1) (n := A.length) (by omega) (by omega) k1 6
  obtain ⟨k, m3, φ3, hk, ht3, l3, k3, p3⟩ := pop_nat ht2 (l := ((List.range A.length).eraseIdx m1).eraseIdx m2) (n := A.length) (by omega) (by omega) k2 15
  have dt : ∀ {a b ia ib : Nat} {ρ : En}, a < A.length → b < A.length → ρ[8]? = some (some (rws A)) → ρ[ia]? = some (some (.int (a : Int))) → ρ[ib]? = some (some (.int (b : Int))) → eCall F__law_dot (aCons (eBin gIx (eVar 8) (eVar ia)) (aCons (eBin gIx (eVar 8) (eVar ib)) aNil)) ρ φ3 = .ok (.int (dot (gw A a) (gw A b))) φ3 := fun {a b ia ib ρ} ha hb h8 h1 h2 =>
    call_ok (two_ok (bin_ok (v_ok h8) (v_ok h1) (gIx_rows ha)) (bin_ok (v_ok h8) (v_ok h2) (gIx_rows hb))) (f_ldot φ3 (bd6_rw (R _ (gw_mem ha))) (bd6_rw (R _ (gw_mem hb))))
  have sg : ∀ t : Int, gIx (.lst [.int (-1), .int 1]) (.int (b2z (decide (0 < t)))) = some (.int (if 0 < t then 1 else -1)) := fun t => by
    by_cases h : 0 < t
    · rw [decide_eq_true h, if_pos h]; rfl
    · rw [decide_eq_false h, if_neg h]; rfl
  have e16 : ∀ ρ : En, ρ[16]? = some (some (.int (sgn3 A i j k))) → ρ[17]? = some (some (.int (tp A i j k))) → bCmp gNe (eVar 16) (eBin gIx (eLst (aCons (eUn gNeg (eInt 1)) (aCons (eInt 1) aNil))) (eCB gInt (aCons (eBin gGtA (eVar 17) (eInt 0)) aNil))) ρ φ3 = .ok false φ3 := fun ρ h16 h17 =>
    (cmp_ok (d := .int (sgn3 A i j k)) (e := .int (sgn3 A i j k)) (v_ok h16) (bin_ok (d := .lst [.int (-1), .int 1]) (e := .int (b2z (decide (0 < tp A i j k)))) (lst_ok (ds := [.int (-1), .int 1]) (two_ok (un_ok (d := .int 1) rfl rfl) rfl) (size_le (show 2 ≤ 1000000 by decide))) (cb1_ok (d := .bl (decide (0 < tp A i j k))) (bin_ok (d := .int (tp A i j k)) (e := .int 0) (v_ok h17) rfl rfl) rfl) (sg _)) (ne_int _ _)).trans (no_ok rfl)
  refine ⟨φ3, some (.int (j : Int)), some (nints ((((List.range A.length).eraseIdx m1).eraseIdx m2).eraseIdx m3)), some (.int (i : Int)), some (.int (k : Int)), some (.int (sgn3 A i j k)), some (.int (tp A i j k)), ht3, ?_⟩
  refine seq_nx (set_ok e13) (seq_nx (p1 _ rfl rfl) (seq_nx (p2 _ rfl rfl) (seq_nx (p3 _ rfl rfl) ?_)))
  show sSeq _ _ [some .feed, y1, y2, y3, y4, y5, some (.int (j : Int)), y7, some (rws A), y9, y10, some (rws A), y12, some (nints ((((List.range A.length).eraseIdx m1).eraseIdx m2).eraseIdx m3)), some (.int (i : Int)), some (.int (k : Int)), y16, y17, y18, y19, y20, y21] φ3 = _
  refine seq_nx (set_ok (call_ok (cons_ok (v_ok rfl) (cons_ok (v_ok rfl) (two_ok (v_ok rfl) (v_ok rfl)))) (f_tsign R hi hj hk φ3))) ?_
  refine seq_nx (set_ok (tp_ok R hi hj hk (dt (ia := 14) (ib := 6) hi hj rfl rfl rfl) (dt (ia := 14) (ib := 15) hi hk rfl rfl rfl) (dt (ia := 6) (ib := 15) hj hk rfl rfl rfl))) ?_
  exact seq_one (if_skip (or_no (whole_no (v_ok rfl)) (or_no (e16 _ rfl rfl) ((cmp_ok (v_ok rfl) (v_ok rfl) (emb_rws.gNe (by decide) A A)).trans (no_ok rfl)))))
theorem lp4_step (hr : r ∈ RT) (φ : Fd) (ht : 0 ≤ φ.told) (y1 y2 y3 y5 y6 y7 y8 y9 y10 y11 y12 y13 y14 y15 y16 y17 y18 y19 y20 y21 : Option D) : ∃ φ' z12 z18 z19, 0 ≤ φ'.told ∧
    lb__law_right_4 [some .feed, y1, y2, y3, some (rws (LN r)), y5, y6, y7, y8, y9, y10, y11, y12, y13, y14, y15, y16, y17, y18, y19, y20, y21] φ = .nx [some .feed, y1, y2, y3, some (rws (LN r)), y5, y6, y7, y8, y9, y10, y11, z12, y13, y14, y15, y16, y17, z18, z19, y20, y21] φ' := by
  obtain ⟨m, φ1, hm, ht1, d⟩ := draw_nat 0 φ ht 7 (by decide) (by decide)
  obtain ⟨zs, φ2, e18, hl, ht2, mz⟩ := lc_P (fun φ => 0 ≤ φ.told) (fun v : List Int => v ∈ LN r) (I := iRg1 (aCons (eBin gAdd (eInt 1) (eCall F__law_draw (aCons (eVar 0) (aCons (eInt 7) aNil)))) aNil)) (T := tgN 15) (elt := eBin gIx (eVar 4) (eCall F__law_draw (aCons (eVar 0) (aCons (eInt 28) aNil)))) (vs := [15])
    (ρ := [some .feed, y1, y2, y3, some (rws (LN r)), y5, y6, y7, y8, y9, y10, y11, y12, y13, y14, y15, y16, y17, y18, y19, y20, y21]) (φ1 := φ) (φ := φ1) (List.range (m + 1)) (fun (k : Nat) => D.int (k : Int)) row
    (rg1_ok (n := m + 1) (one_ok (bin_ok rfl (d _ _ rfl rfl) (show some (D.int (1 + (m : Int))) = _ by rw [Int.add_comm]; rfl))) (by omega)) (size_le (by rw [List.length_range]; omega)) ht1 (fun k hk φ hφ => by
      obtain ⟨q, φ', hq, ht', d'⟩ := draw_nat 0 φ hφ 28 (by decide) (by decide)
      have hq2 : q < (LN r).length := by rw [LN_len hr]; exact hq
      exact ⟨_, rfl, gw (LN r) q, φ', bin_ok (v_ok rfl) (d' _ _ rfl rfl) (gIx_rows hq2), ht', gw_mem hq2⟩)
  rw [List.length_range] at hl
  have h7 := clr_le hr mz
  have h1 : 1 ≤ (clr zs).length := by
    cases zs with
    | nil => simp at hl
    | cons v zs => exact clr_pos hr (mz v (by simp)) zs
  have sp := f_spanned (rows := zs) (lines := LN r) φ2 (by omega) (fun v hv => bd_bw (LN_R hr v (mz v hv))) (fun v hv => bd_bw (LN_R hr v hv))
  refine ⟨φ2, some (.int (((LN r).countP (gone (clr zs)) : Nat) : Int)), some (rws zs), some (.int (((clr zs).length : Nat) : Int)), ht2, ?_⟩
  refine seq_nx (set_ok (d := rws zs) e18) (seq_nx (asg_ok (call_ok (two_ok (v_ok rfl) (v_ok rfl)) sp) rfl) (seq_one (if_skip ((cmp_ok (v_ok rfl) (call_ok (one_ok (v_ok rfl)) (f_most h1 h7.1 φ2)) rfl).trans ?_))))
  exact congrArg (fun b => O.ok b φ2) (decide_eq_false (by have := h7.2; omega))
end
end Pf

set_option Elab.async false
set_option linter.all false
set_option maxRecDepth 100000
set_option maxHeartbeats 2000000
namespace Pf
open PySem PySem.Spec PyProof.Rows L2

theorem rt8 (n : Nat) : rg1 [.int (n : Int)] = rg1 [.int (n : Int)] := rfl
theorem f_right {r : List Int} (hr : r ∈ RT) (φ : Fd) (ht : 0 ≤ φ.told) : ∃ φ', F__law_right [.feed, rws RT, row r] φ = .ok (.bl true) φ' ∧ 0 ≤ φ'.told := by
  obtain ⟨z6, z7, l1⟩ := lp1 hr φ (some .feed) (some (rws RT)) (some (row r)) (some (rws (LN r))) (List.replicate 14 none) rfl
  obtain ⟨m, φ1, hm, ht1, d⟩ := draw_nat 0 φ ht 10 (by decide) (by decide)
  obtain ⟨A, B, φ2, z10, ht2, hA, mA, l2⟩ := lp2 hr φ1 ht1 (m + 1) (by omega) (some (rws RT)) (some (row r)) (some (row r)) (some (rws (LN r))) (some (rws (LN r))) z6 z7 (List.replicate 11 none) rfl
  have R : Rs A := fun v hv => LN_R hr v (mA v hv)
  have e12 := f_trip R (by omega) φ2
  obtain ⟨φ3, w6, w10, w13, w14, w15, w16, w17, ht3, l3⟩ : ∃ φ3 w6 w10 w13 w14 w15 w16 w17, 0 ≤ φ3.told ∧ (sIf (bCmp gGtA (eCB gLen (aCons (eVar 8) aNil)) (eInt 2)) (sSeq (sFor (iRg1 (aCons (eInt 4) aNil)) (tgN 10) lb__law_right_3) sNil) sNil)
      [some .feed, some (rws RT), some (row r), some (row r), some (rws (LN r)), some (rws (LN r)), z6, z7, some (rws A), some (rws B), z10, some (rws A), some (.int ((ET (P3 A) A.length : Nat) : Int)), none, none, none, none, none, none, none, none, none] φ2 =
      .nx [some .feed, some (rws RT), some (row r), some (row r), some (rws (LN r)), some (rws (LN r)), w6, z7, some (rws A), some (rws B), w10, some (rws A), some (.int ((ET (P3 A) A.length : Nat) : Int)), w13, w14, w15, w16, w17, none, none, none, none] φ3 := by
    have c : ∀ ρ : En, ρ[8]? = some (some (rws A)) → bCmp gGtA (eCB gLen (aCons (eVar 8) aNil)) (eInt 2) ρ φ2 = .ok (decide ((2 : Int) < (A.length : Int))) φ2 := fun ρ h => cmp_ok (cb1_ok (v_ok h) gLen_rows) rfl rfl
    by_cases h2 : 2 < A.length
    · obtain ⟨ρ', φ3, h1, w6, w10, w13, w14, w15, w16, w17, rfl, ht3⟩ := for_st (T := tgN 10) (e := fun (j : Nat) => D.int (j : Int)) (B := lb__law_right_3)
        (fun _ ρ φ => ∃ w6 w10 w13 w14 w15 w16 w17, ρ = [some .feed, some (rws RT), some (row r), some (row r), some (rws (LN r)), some (rws (LN r)), w6, z7, some (rws A), some (rws B), w10, some (rws A), some (.int ((ET (P3 A) A.length : Nat) : Int)), w13, w14, w15, w16, w17, none, none, none, none] ∧ 0 ≤ φ.told) (List.range 4) []
        (ρ := [some .feed, some (rws RT), some (row r), some (row r), some (rws (LN r)), some (rws (LN r)), z6, z7, some (rws A), some (rws B), z10, some (rws A), some (.int ((ET (P3 A) A.length : Nat) : Int)), none, none, none, none, none, none, none, none, none]) (φ := φ2) ⟨z6, z10, none, none, none, none, none, rfl, ht2⟩ (by
        rintro pre j post ρ φ hp ⟨w6, w10, w13, w14, w15, w16, w17, rfl, ht⟩
        obtain ⟨φ', u6, u13, u14, u15, u16, u17, ht', hs⟩ := lp3_step hr h2 (by omega) mA φ ht (some (rws RT)) (some (row r)) (some (row r)) (some (rws (LN r))) (some (rws (LN r))) w6 z7 (some (rws B)) (some (.int (j : Int))) (some (.int ((ET (P3 A) A.length : Nat) : Int))) w13 w14 w15 w16 w17 none none none none
        exact ⟨_, rfl, _, φ', .inl hs, u6, some (.int (j : Int)), u13, u14, u15, u16, u17, rfl, ht'⟩)
      exact ⟨φ3, w6, w10, w13, w14, w15, w16, w17, ht3, if_yes ((c _ rfl).trans (by rw [decide_eq_true (by omega)])) (seq_one (for_ok (rg1_ok (n := 4) rfl (by decide)) h1))⟩
    · exact ⟨φ2, z6, z10, none, none, none, none, none, ht2, if_skip ((c _ rfl).trans (by rw [decide_eq_false (by omega)]))⟩
  obtain ⟨ρ4, φ4, l4, v10, v12, v18, v19, rfl, ht4⟩ := for_st (T := tgN 10) (e := fun (j : Nat) => D.int (j : Int)) (B := lb__law_right_4)
    (fun _ ρ φ => ∃ v10 v12 v18 v19, ρ = [some .feed, some (rws RT), some (row r), some (row r), some (rws (LN r)), some (rws (LN r)), w6, z7, some (rws A), some (rws B), v10, some (rws A), v12, w13, w14, w15, w16, w17, v18, v19, none, none] ∧ 0 ≤ φ.told) (List.range 4) []
    (ρ := [some .feed, some (rws RT), some (row r), some (row r), some (rws (LN r)), some (rws (LN r)), w6, z7, some (rws A), some (rws B), w10, some (rws A), some (.int ((ET (P3 A) A.length : Nat) : Int)), w13, w14, w15, w16, w17, none, none, none, none]) (φ := φ3) ⟨w10, _, none, none, rfl, ht3⟩ (by
    rintro pre j post ρ φ hp ⟨v10, v12, v18, v19, rfl, ht⟩
    obtain ⟨φ', u12, u18, u19, ht', hs⟩ := lp4_step hr φ ht (some (rws RT)) (some (row r)) (some (row r)) (some (rws (LN r))) w6 z7 (some (rws A)) (some (rws B)) (some (.int (j : Int))) (some (rws A)) v12 w13 w14 w15 w16 w17 v18 v19 none none
    exact ⟨_, rfl, _, φ', .inl hs, some (.int (j : Int)), u12, u18, u19, rfl, ht'⟩)
  obtain ⟨φ5, e20, ht5⟩ := f_chosen hr φ4 ht4
  refine ⟨φ5, run_rt (seq_nx (set_ok (cb1_ok (d := row r) (z := row r) (v_ok rfl) rfl)) (seq_nx (set_ok (call_ok (two_ok (v_ok rfl) (v_ok rfl)) (f_llines hr φ))) (seq_nx (set_ok (call_ok (one_ok (v_ok rfl)) (f_lines hr φ))) ?_))), ht5⟩
  show sSeq _ _ [some .feed, some (rws RT), some (row r), some (row r), some (rws (LN r)), some (rws (LN r)), none, none, none, none, none, none, none, none, none, none, none, none, none, none, none, none] φ = _
  refine seq_nx (if_skip (or_no (not_ok (b := true) (trub_ok (un_ok (v_ok rfl) rfl))) (or_no (φ1 := φ) ((cmp_ok (v_ok rfl) (v_ok rfl) (emb_rws.gNe (by decide) (LN r) (LN r))).trans (no_ok rfl)) (or_no (φ1 := φ) ((cmp_ok (v_ok rfl) (v_ok rfl) (emb_row.gNe (by decide) r r)).trans (no_ok rfl)) ((cmp_ok (cb1_ok (v_ok rfl) gLen_rows) rfl (ne_int _ _)).trans (no_ok (by rw [LN_len hr]; rfl))))))) ?_
  refine seq_nx (for_ok (rg1_ok (n := 28) rfl (by decide)) l1) ?_
  show sSeq _ _ [some .feed, some (rws RT), some (row r), some (row r), some (rws (LN r)), some (rws (LN r)), z6, z7, none, none, none, none, none, none, none, none, none, none, none, none, none, none] φ = _
  refine seq_nx (if_skip ((cmp_ok (call_ok (one_ok (v_ok rfl)) (f_rank φ (by rw [LN_len hr]; decide) fun v hv => bd_bw (LN_R hr v hv))) rfl (ne_int _ _)).trans (no_ok (by rw [rank7 hr]; rfl)))) ?_
  refine seq_nx (set_ok rfl) (seq_nx (set_ok (cb1_ok (d := rws (LN r)) (z := rws (LN r)) (v_ok rfl) rfl)) ?_)
  refine seq_nx (for_ok (rg1_ok (n := m + 1) (one_ok (bin_ok rfl (d _ _ rfl rfl) (show some (D.int (1 + (m : Int))) = _ by rw [Int.add_comm]; rfl))) (by omega)) l2) ?_
  show sSeq _ _ [some .feed, some (rws RT), some (row r), some (row r), some (rws (LN r)), some (rws (LN r)), z6, z7, some (rws A), some (rws B), z10, none, none, none, none, none, none, none, none, none, none, none] φ2 = _
  refine seq_nx (set_ok (d := rws A) (lcm_ok A row row (seq_l (v_ok rfl)) (size_le (by omega)) fun v _ => ⟨_, rfl, cb1_ok (d := row v) (v_ok rfl) rfl⟩)) ?_
  refine seq_nx (set_ok (call_ok (one_ok (v_ok rfl)) e12)) ?_
  refine seq_nx (if_skip (or_no (whole_no (v_ok rfl)) (or_no (φ1 := φ2) ((cmp_ok (v_ok rfl) (call_ok (one_ok (v_ok rfl)) (f_signs R (by omega) φ2)) (ne_int _ _)).trans (no_ok (by rw [triple_two]))) ((cmp_ok (v_ok rfl) (v_ok rfl) (emb_rws.gNe (by decide) A A)).trans (no_ok rfl))))) ?_
  refine seq_nx l3 (seq_nx (for_ok (rg1_ok (n := 4) rfl (by decide)) l4) (seq_nx (set_ok (call_ok (cons_ok (v_ok rfl) (cons_ok (v_ok rfl) (two_ok (v_ok rfl) (v_ok rfl)))) e20)) (seq_rt (ret_ok (bin_ok (d := row [28, 16, 10, 6, 4, 2, 1]) (e := row [28, 16, 10, 6, 4, 2, 1]) (v_ok rfl) rfl ((emb_row.gEq (by decide) _ _).trans (by rw [decide_eq_true rfl])))))))
/-! ## the law -/
def ODb : List (List Int) := ((List.range 256).map fun bits => (List.range 8).map fun k => 1 - 2 * (((bits >>> k) % 2 : Nat) : Int)).filter fun r => r.sum.fmod 4 == 0
theorem RT_eb : RT.Perm (EV ++ ODb) := by
  have : List.isPerm RT (EV ++ ODb) = true := by decide +kernel
  exact List.isPerm_iff.mp this
theorem RT_eb_sort : (EV ++ ODb).mergeSort (leL ltR) = RT := sort_is tot_row (lt_le tot_row RT_lt) RT_eb
theorem f_lroots (φ : Fd) : F__law_all_roots [] φ = .ok (rws RT) φ := by
  refine run_rt (seq_nx (set_ok rfl) (seq_env (by kernel_rfl) (seq_env (by kernel_rfl) (seq_rt (ret_ok (cb1_ok (v_ok (d := rws (EV ++ ODb)) (by kernel_rfl)) ?_))))))
  unfold rws
  rw [emb_row.gSorted (by decide), RT_eb_sort]
theorem span_ok {r : List Int} (hr : r ∈ RT) (n : Nat) (hn : n = 1 ∨ n = 2) (φ : Fd) {ρ : En} (h5 : ρ[5]? = some (some (rws (LN r)))) {A : SX} (hA : A ρ φ = .ok (.int (n : Int)) φ) : eCall F__law_spanned (aCons (eSl (eVar 5) oNone (oSome A)) (aCons (eVar 5) aNil)) ρ φ = .ok (.tup [.int (n : Int), .int (n : Int)]) φ := by
  obtain ⟨s1, s2⟩ := span_n hr n hn
  have := f_spanned (rows := (LN r).take n) (lines := LN r) φ (by rw [List.length_take]; omega) (fun v hv => bd_bw (LN_R hr v (List.mem_of_mem_take hv))) (fun v hv => bd_bw (LN_R hr v hv))
  rw [s1, s2] at this
  exact call_ok (two_ok (sl_rows (v_ok h5) hA) (v_ok h5)) this
theorem law_true : ∀ φ : Fd, φ.Ok → ∃ φ', B_law ((List.replicate 9 none).set 1 (some .feed)) φ = .rt (.bl true) φ' := by
  intro φ h
  obtain ⟨r, hr, g⟩ := draw_ix row RT φ 240 rfl RT_len (by decide)
  obtain ⟨φ2, er, ht2⟩ := f_right hr (φ.draw 240).2 (Fd.draw_told h.t0 240)
  obtain ⟨m, φ3, hm, ht3, d⟩ := draw_nat 1 φ2 ht2 4 (by decide) (by decide)
  have hl : (LN r).length ≤ 1000 := by rw [LN_len hr]; decide
  refine ⟨φ3, seq_nx (set_ok (call0_ok (f_lroots φ))) (seq_nx (set_ok (bin_ok (v_ok rfl) (draw_at 1 rfl rfl (by decide) (by decide) h.t0) g)) ?_)⟩
  show sSeq _ _ [none, some .feed, some (rws RT), some (row r), none, none, none, none, none] (φ.draw 240).2 = _
  refine seq_nx (if_skip (not_ok (b := true) (trub_ok (call_ok (cons_ok (v_ok rfl) (two_ok (v_ok rfl) (v_ok rfl))) er)))) ?_
  refine seq_nx (set_ok (d := row [1, 2, 4, 6, 10, 16, 28]) (lcm_ok (rg 1 8) (fun (k : Nat) => D.int (k : Int)) (fun k => D.int ((mostL k : Nat) : Int)) (rg_ok (a := 1) (n := 8) rfl (by decide) (by decide)) (size_le (by rw [rg_len]; decide)) fun k hk => ⟨_, rfl, call_ok (one_ok (v_ok rfl)) (f_most (rg_mem.mp hk).1 (by have := (rg_mem.mp hk).2; omega) φ2)⟩)) ?_
  refine seq_nx (if_skip (or_no (φ1 := φ2) ((cmp_ok (d := row [1, 2, 4, 6, 10, 16, 28]) (e := row [1, 2, 4, 6, 10, 16, 28]) (v_ok rfl) rfl (emb_row.gNe (by decide) _ _)).trans (no_ok rfl)) (no_len (φ1 := φ2) [1, 2, 4, 6, 10, 16, 28] D.int (seq_l (v_ok rfl)) (by decide) fun x _ => ⟨_, rfl, whole_no (v_ok rfl)⟩))) ?_
  refine seq_nx (set_ok (call_ok (two_ok (v_ok rfl) (v_ok rfl)) (f_llines hr φ2))) ?_
  show sSeq _ _ [none, some .feed, some (rws RT), some (row r), some (row [1, 2, 4, 6, 10, 16, 28]), some (rws (LN r)), none, none, none] φ2 = _
  have c4 : ∀ ρ : En, ρ[1]? = some (some .feed) → bCmp gEq (eCall F__law_draw (aCons (eVar 1) (aCons (eInt 4) aNil))) (eInt 0) ρ φ2 = .ok (decide ((m : Int) = 0)) φ3 := fun ρ h1 => cmp_ok (d _ _ h1 rfl) rfl (eq_int _ _)
  refine seq_nx (φ1 := φ3) (if_skip ?_) ?_
  · by_cases hm0 : (m : Int) = 0
    · refine and_yes ((c4 _ rfl).trans (by rw [decide_eq_true hm0])) ((cmp_ok (call_ok (one_ok (d := rws (LN r)) (lcm_ok (LN r) row row (seq_l (v_ok rfl)) (size_le (by omega)) fun v _ => ⟨_, rfl, cb1_ok (d := row v) (v_ok rfl) rfl⟩)) (f_trip (LN_R hr) hl φ3)) (call_ok (one_ok (v_ok rfl)) (f_signs (LN_R hr) hl φ3)) (ne_int _ _)).trans (no_ok (by rw [triple_two])))
    · exact and_no ((c4 _ rfl).trans (by rw [decide_eq_false hm0]))
  refine seq_nx (if_skip (or_no (φ1 := φ3) (cmp_ok (span_ok hr 1 (.inl rfl) φ3 rfl rfl) rfl (by kernel_rfl)) (cmp_ok (span_ok hr 2 (.inr rfl) φ3 rfl rfl) rfl (by kernel_rfl)))) ?_
  have h2 : ((LN r).take 2).length = 2 := by rw [List.length_take, LN_len hr]; rfl
  have et := f_trip (rows := (LN r).take 2) (fun v hv => LN_R hr v (List.mem_of_mem_take hv)) (by omega) φ3
  rw [h2] at et
  have l28 : F_lines_of [row r0] φ3 = .ok (rws (LN r0)) φ3 := f_lines r0_in φ3
  exact seq_rt (ret_ok (eand_yes (bin_ok (call_ok (one_ok (sl_rows (k := 2) (v_ok rfl) rfl)) et) rfl ((eq_int _ _).trans rfl)) (bin_ok (cb1_ok (call_ok (one_ok (d := row r0) rfl) l28) gLen_rows) rfl ((eq_int _ _).trans (by rw [LN_len r0_in]; rfl)))))
end Pf

set_option Elab.async false
set_option linter.all false
set_option maxRecDepth 100000
open PySem PySem.W PyProof.Rows
set_option maxHeartbeats 0 in
theorem PySem.Challenge.cw_eightroots_k30_whole_lines_at_one_angle_holds : PySem.Challenge.rw_eightroots_k30_whole_lines_at_one_angle.Holds := by
  w_on; o_law; k_head; (case hw => w_witness2)
  k_fill
  refine L2.walk_of (l := PySem.Challenge.rw_eightroots_k30_whole_lines_at_one_angle) (n := 63) (k := 8) (x := "script") (CX := fun w => L2N.CX PySem.Challenge.rw_eightroots_k30_whole_lines_at_one_angle.prog w) (sp := fun w => Pf.spLaw _) rfl (by decide) rfl ⟨rfl, by decide, by decide⟩ (fun w h Y => PySem.W.kIn_of Y) ?F (fun _ _ a ns hl _ hS => ⟨a, ns, rfl, hS, hl, fun _ => rfl⟩) (fun _ _ _ _ _ ⟨_, _, _, _, _, _, _, _, _, _, _, _, h⟩ => h)
  case F =>
    intro w mg fa h KX G hmg
    refine' Pf.all_mk KX G hmg ?a0 ?l0 ?c0 ?k0 ?a1 ?l1 ?c1 ?k1 ?a2 ?l2 ?c2 ?k2 ?a3 ?l3 ?c3 ?k3 ?a4 ?l4 ?c4 ?k4 ?a5 ?l5 ?c5 ?k5 ?a6 ?l6 ?c6 ?k6 ?a7 ?l7 ?c7 ?k7 ?a8 ?l8 ?c8 ?k8 ?a9 ?l9 ?c9 ?k9 ?a10 ?l10 ?c10 ?k10 ?a11 ?l11 ?c11 ?k11 ?a12 ?l12 ?c12 ?k12 ?a13 ?l13 ?c13 ?k13 ?a14 ?l14 ?c14 ?k14 ?a15 ?l15 ?c15 ?k15 ?a16 ?l16 ?c16 ?k16 ?a17 ?l17 ?c17 ?k17 ?a18 ?l18 ?c18 ?k18 ?a19 ?l19 ?c19 ?k19 ?a20 ?l20 ?c20 ?k20 ?a21 ?l21 ?c21 ?k21 ?a22 ?l22 ?c22 ?k22 ?a23 ?l23 ?c23 ?k23 ?a24 ?l24 ?c24 ?k24 ?z_sum ?z_zip ?z_range ?z_sorted ?z_len ?z_list ?z_abs ?z_int ?z_isinstance ?z_bool ?y_SIZE ?y_MOST_BY_RANK ?r_MOST_BY_RANK Pf.law_true
    (case a0 => k_is); (case l0 => k_is); (case c0 => k_is); (case k0 => k_is); (case a1 => k_is); (case l1 => k_is); (case c1 => k_is); (case k1 => k_is); (case a2 => k_is); (case l2 => k_is); (case c2 => k_is); (case k2 => k_is); (case a3 => k_is); (case l3 => k_is); (case c3 => k_is); (case k3 => k_is); (case a4 => k_is); (case l4 => k_is); (case c4 => k_is); (case k4 => k_is); (case a5 => k_is); (case l5 => k_is); (case c5 => k_is); (case k5 => k_is); (case a6 => k_is); (case l6 => k_is); (case c6 => k_is); (case k6 => k_is); (case a7 => k_is); (case l7 => k_is); (case c7 => k_is); (case k7 => k_is); (case a8 => k_is); (case l8 => k_is); (case c8 => k_is); (case k8 => k_is); (case a9 => k_is); (case l9 => k_is); (case c9 => k_is); (case k9 => k_is); (case a10 => k_is); (case l10 => k_is); (case c10 => k_is); (case k10 => k_is); (case a11 => k_is); (case l11 => k_is); (case c11 => k_is); (case k11 => k_is); (case a12 => k_is); (case l12 => k_is); (case c12 => k_is); (case k12 => k_is); (case a13 => k_is); (case l13 => k_is); (case c13 => k_is); (case k13 => k_is); (case a14 => k_is); (case l14 => k_is); (case c14 => k_is); (case k14 => k_is); (case a15 => k_is); (case l15 => k_is); (case c15 => k_is); (case k15 => k_is); (case a16 => k_is); (case l16 => k_is); (case c16 => k_is); (case k16 => k_is); (case a17 => k_is); (case l17 => k_is); (case c17 => k_is); (case k17 => k_is); (case a18 => k_is); (case l18 => k_is); (case c18 => k_is); (case k18 => k_is); (case a19 => k_is); (case l19 => k_is); (case c19 => k_is); (case k19 => k_is); (case a20 => k_is); (case l20 => k_is); (case c20 => k_is); (case k20 => k_is); (case a21 => k_is); (case l21 => k_is); (case c21 => k_is); (case k21 => k_is); (case a22 => k_is); (case l22 => k_is); (case c22 => k_is); (case k22 => k_is); (case a23 => k_is); (case l23 => k_is); (case c23 => k_is); (case k23 => k_is); (case a24 => k_is); (case l24 => k_is); (case c24 => k_is); (case k24 => k_is); (case z_sum => k_is); (case z_zip => k_is); (case z_range => k_is); (case z_sorted => k_is); (case z_len => k_is); (case z_list => k_is); (case z_abs => k_is); (case z_int => k_is); (case z_isinstance => k_is); (case z_bool => k_is); (case y_SIZE => k_is); (case y_MOST_BY_RANK => k_is); (case r_MOST_BY_RANK => kernel_rfl)
